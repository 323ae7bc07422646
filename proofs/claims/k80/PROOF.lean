import PyProof.Rows.All
import Wide.All
import OpenK.AllK
import Wide.FinOn
import HandS.NoneIn
import HandS.SetKeys
import HandS.Iter
import KE.KDictLaws
import HandS.IsInst
import KE.KExcIs
import KE.RegKIsAll
import HandS.List
import HandS.Exc
import HandS.Lambda
import HandS.Text
import HandS.Comp
import HandS.TupAny
import HandS.Wide
import HandS.Words
import HandS.WordsExc
import HandS.ExcOwn
import HandS.Conv
import HandS.SortInts
import HandS.RaiseMore
import PyProof.ReprRoads
import HandS.More
import HandS.StrMore
import HandS.Replace
import HandS.Ends
import HandS.EndBits
import HandS.Style
import HandS.Deep
import PyProof.ReprLen
import HandS.Codes
import HandS.Zip
import HandS.Dict
import KE.GoesEnum
import HandS.Defaults
import HandS.Flow
import HandS.WideBits
import KE.DataMinMax
import HandS.SortKw
import PyProof.Rows.SortShellAny
import KE.KRevSl
import OpenK.KTop
import HandS.TryMany
import KE.KTryMore
import KE.KExcInit
import PyProof.ExcBaseAll.OverflowError
import PyProof.ExcBaseAll.IndexError
import PyProof.ExcBaseAll.RuntimeError
import HandS.ExcField
import KE.RegKTryMore
import KE.KDictList
import KE.SortData
import KE.SortKeyHeap
import HandS.EndTab
import PyProof.TabOkSpec
import PyProof.StrReplace2
import HandS.TupSets
import HandS.FStr
import PyProof.FString5
import PyProof.CallStr
import HandS.DictComp
import HandS.ExcInit
import HandS.TupMul
import HandS.DictTup
import HandS.DictSubView
import KE.KDictCopyH
import KE.KDictDisplayH
import HandS.TupLen
import PyProof.DictMoreH
import HandS.TryOnly
import KE.DataMinKey
import PyProof.SumAny
import PyProof.ListOps
import HandS.ReplaceLit
import HandS.ReplaceList
import PySem.Challenge.RW_tabprism_k80_notation_refused
set_option Elab.async false
set_option linter.all false
set_option maxRecDepth 100000
set_option maxHeartbeats 2000000
namespace L2
open PySem PySem.Spec PyProof.Rows
def optKind (P : Program) (w : World) : PySem.KeyKind P w (Option Int) where
  is := fun k v => nkIs (k.map Sum.inl) v
  hash := fun k => (noneKind P w).hash (k.map Sum.inl)
  inj := fun v a b ha hb => by
    have e := (noneKind P w).inj v _ _ ha hb
    cases a <;> cases b <;> simp_all
  byValue := fun k v h => (noneKind P w).byValue _ v h
  pyHash := fun {A E s k v Q} hv h => (noneKind P w).pyHash (k := k.map Sum.inl) hv h
  eqBool := fun {A E s a b u v Q} hu hv h => (noneKind P w).eqBool (a := a.map Sum.inl) (b := b.map Sum.inl) hu hv (by
    have e : decide ((a.map Sum.inl : Option Key) = b.map Sum.inl) = decide (a = b) := by
      cases a <;> cases b <;> simp
    rw [e]; exact h)
  «strs» := fun k x t v h => (noneKind P w).«strs» _ x t v h
def oV : Option Int → V
  | none => .non
  | some i => .int i
def NdP (us : List (Option Int × V)) (a : Addr) (h : Heap) : Prop := us.length ≤ sizeLine ∧ (a == sysModules) = false ∧ (∃ o es ep, h.get? a = some o ∧ o.data = .dict es ep) ∧ ∃ vs, KV us vs ∧ ∀ (P : Program) (w : World), h.DictOf (optKind P w) a vs
def NdO (us : List (Option Int × V)) (a : Addr) : HO := .ext (NdP us a)
section
variable {X : Cx}
def tDNewN : TE := fun _ H Q => ∀ p, H p = none → Q (.ref p) (upd H p (NdO [] p))
end
section
variable {X : Cx} {pins : List (Addr × Obj)} {σ : St} {H : Hp} {s : Shared} {a : Addr} {u r : Value} {d : V} {k : Option Int} {A : Around} {E : Value → Shared → Prop}
end
def tNSetd (td ty tx : TE) : TE := fun σ H Q => td σ H fun x H1 => ∃ a us1, x = .ref a ∧ H1 a = some (NdO us1 a) ∧ ty σ H1 fun y H2 => tx σ H2 fun z H3 => ∃ (us : List (Option Int × V)) (k : Option Int), H3 a = some (NdO us a) ∧ y = oV k ∧ us.length < sizeLine ∧
  (∀ v, valV us k = some v → Q v H3) ∧ (valV us k = none → Q z (upd H3 a (NdO (putK us k z) a)))
section
variable {X : Cx} {o e f : Expr} {td ty tx : TE} {apos cpos : Pos}
end
end L2
namespace L2
open PySem PySem.Spec PyProof.Rows
section
variable {X : Cx} {pins : List (Addr × Obj)} {σ : St} {H : Hp} {s : Shared} {d : Addr} {us : List (Option Int × V)}
end
end L2
namespace L2
open PySem PySem.Spec PyProof.Rows
theorem nd_code {us : List (Option Int × V)} {a c : Addr} {q : Str} (e : NdO us a = HO.ext fun h => ∃ (oc : Obj) (vs : Array Value) (t : Tok), h.get? c = some oc ∧ oc.data = .fields vs ∧ vs[1]? = some (.str q t)) : False := by
  injection e with e
  obtain ⟨ob, hob⟩ : ∃ ob : Obj, ob = { cls := .none, data := .fields #[.none, .str q 0] } := ⟨_, rfl⟩
  have key : ∀ (b : Addr) (o : Obj), (Heap.mk (Array.replicate (c + 1) ob) {}).get? b = some o → o = ob := fun b o h => by
    unfold Heap.get? at h
    split at h
    · cases h
    · obtain ⟨hb, h5⟩ := Array.getElem?_eq_some_iff.mp h
      rw [← h5, Array.getElem_replicate]
  have hc : (Heap.mk (Array.replicate (c + 1) ob) {}).get? c = some ob := by
    unfold Heap.get?
    have h5 : (Array.replicate (c + 1) ob)[c]? = some ob := by rw [Array.getElem?_replicate, if_pos (Nat.lt_succ_self c)]
    dsimp only
    rw [h5, hob]
  have h2 : NdP us a (Heap.mk (Array.replicate (c + 1) ob) {}) := by
    rw [e]
    exact ⟨ob, _, 0, hc, by rw [hob], rfl⟩
  obtain ⟨_, _, ⟨o, es, ep, h1, h3⟩, _⟩ := h2
  rw [key a o h1, hob] at h3
  cases h3
end L2
set_option maxRecDepth 100000
namespace L2
open PySem PySem.Spec PyProof.Rows
structure XcF (K : PySem.W.Frag) (C : Addr) : Prop where
  cl : (PySem.W.clsIn K C).isSome = true
  ga : PySem.W.findIn K (.ref C) "__getattribute__" = some (some (.builtin "BaseException.__getattribute__"))
  gg : PySem.W.findIn K (.ref C) "__getattr__" = some none
  exC : PySem.W.subIn K (.ref C) (.type "BaseException") = some true
  cc : PySem.W.findIn K (.ref C) "__class__" = some (some (.builtin "object.__class__"))
  gt : PySem.W.specialIn K (.builtin "object.__class__") "__get__" = some (some (.builtin "getset_descriptor.__get__"))
  tk : PySem.W.takesIn K (.builtin "object.__class__") = some true
  ob : PySem.W.mroIn K C (.type "object") = some true
  hd : PySem.W.hasDictIn K C = true
def ExcK (K : PySem.W.Frag) (cv : Value) : Prop := ∃ C, cv = .ref C ∧ XcF K C ∧ ∀ T ∈ (["int", "bool", "str", "tuple", "list"] : List String), PySem.W.kitOne K (.ref C) (.type T) = some false
def XuOk (W : Addr → Prop) (H : Hp) (us : List (Str × V)) : Option Addr → Prop
  | none => us = []
  | some dx => ¬ W dx ∧ H dx = some (.xd us)
end L2
set_option maxRecDepth 100000
namespace Pz
open PySem PySem.Spec PyProof.Rows L2
abbrev Frag := PySem.W.Frag
class TabC where
  T : List (Addr × Str)
  /-- whether a tuple of the program's top may stand among the data -/
  kw : Prop := True
abbrev NotTbl (o : HO) : Prop := ∀ ps : Array Value, o ≠ .tbl ps
def TabOk [TabC] (W : Addr → Prop) (H : Hp) : Prop := LamX.Tabs TabC.T H ∧ (∀ b ps, H b = some (.tbl ps) → ∃ p ∈ TabC.T, p.1 = b) ∧
  (∀ p ∈ TabC.T, ∀ ps, H p.1 = some (.tbl ps) → ∀ pos c, codeAmong pos ps.toList = some (.ref c) → ¬ W c) ∧ ∀ b xs, H b = some (.tup xs) → ¬ W b
theorem TabOk.less [TabC] {W W' : Addr → Prop} {H : Hp} (t : TabOk W H) (h : ∀ a, W' a → W a) : TabOk W' H := ⟨t.1, t.2.1, fun p hp ps e pos c hc w => t.2.2.1 p hp ps e pos c hc (h c w), fun b xs e w => t.2.2.2 b xs e (h b w)⟩
inductive Sl where
  | d (x : PyData)
  | o (h : Nat)
  | r (v : V)
  /-- a lambda: its address; what was written when it was made, the objects then -/
  | l (f : Addr) (W : Addr → Prop) (H : Hp)
  /-- a list of ints that is only read (the script) -/
  | f (ns : List Int)
inductive Ct where
  | lst (xs : List PyData)
  /-- a list whose items may be written themselves -/
  | lsS (xs : List Sl)
  | dK (kvs : List (Key × PyData))
  | dT (kvs : List (List Key × PyData))
  | ins (C : Addr) (fs : List (Str × Sl))
  /-- a dict whose keys are None and ints; its values may be written themselves -/
  | dN (kvs : List (Option Int × Sl))
  /-- an exception that was caught: its class, its fields -/
  | exc (c : Str) (fs : List (Str × PyData))
  | dead
def Ct.live : Ct → Prop
  | .dead => False
  | _ => True
def Ct.wr : Ct → Prop
  | .dead => False
  | .exc _ _ => False
  | _ => True
theorem Ct.wr.live : ∀ {c : Ct}, c.wr → c.live
  | .lst _, _ => trivial
  | .lsS _, _ => trivial
  | .dK _, _ => trivial
  | .dT _, _ => trivial
  | .ins _ _, _ => trivial
  | .dN _, _ => trivial
abbrev Sls := List (Option Sl)
abbrev Sto := List Ct
def keyD : Key → PyData
  | .inl i => .int i
  | .inr x => .str x
def kyT (k : List Key) : PyData := .tuple (k.map keyD)
def mkK : PyData × PyData := (.none, .bool false)
def mkT : PyData × PyData := (.none, .bool true)
def mkN : PyData × PyData := (.none, .none)
def oD : Option Int → PyData
  | none => .none
  | some i => .int i
def KwL (K : Frag) (a : Addr) (xs : List V) : Prop := ∃ (o : Obj) (its : Array Value) (n : Nat), K.lookup a = some o ∧ o.cls = .type "list" ∧ o.dict = none ∧ o.data = .seq its n ∧ its.size ≤ sizeLine ∧ Vals xs its.toList
def KwT (K : Frag) (a : Addr) (xs : List V) : Prop := ∃ (o : Obj) (its : Array Value) (n : Nat), K.lookup a = some o ∧ o.cls = .type "tuple" ∧ o.data = .seq its n ∧ its.size ≤ sizeLine ∧ Vals xs its.toList
def ImL (K : Frag) (W : Addr → Prop) (H : Hp) (a : Addr) (xs : List V) : Prop := (Rd H a (.lst xs) ∧ ¬ W a) ∨ KwL K a xs
variable [TabC]
def ImT (K : Frag) (W : Addr → Prop) (H : Hp) (a : Addr) (xs : List V) : Prop := (H a = some (.tup xs) ∧ ¬ W a) ∨ (TabC.kw ∧ KwT K a xs)
theorem ImL.sq {K : Frag} {W : Addr → Prop} {H : Hp} {a : Addr} {xs : List V} (h : ImL K W H a xs) : SqL K H a xs := h.elim (fun q => .inl q.1) .inr
theorem ImT.sq {K : Frag} {W : Addr → Prop} {H : Hp} {a : Addr} {xs : List V} (h : ImT K W H a xs) : SqT K H a xs := h.elim (fun q => .inl (.inl q.1)) fun q => .inr q.2
def ExH (c : Value) (d : Option Addr) (a : Addr) : HO := .ext fun h => ∃ (oe : Obj) (vs : Array Value), h.get? a = some oe ∧ Zc c d oe ∧ oe.data = .fields vs
def ClsV (K : Frag) (x : Str) (c : Value) : Prop := PySem.W.nsIn K mainGlobals x = some (some c)
def excD (c : Str) (fs : List (Str × PyData)) : PyData := .dict ((.none, .str c) :: fs.map fun p => (.str p.1, p.2))
mutual
inductive Im (K : Frag) (W : Addr → Prop) (H : Hp) : V → PyData → Prop
  | non : Im K W H .non .none
  | bl (b : Bool) : Im K W H (.bl b) (.bool b)
  | int (i : Int) : Im K W H (.int i) (.int i)
  | str (x : Str) : Im K W H (.str x) (.str x)
  | lst {a : Addr} {xs : List V} {ds : List PyData} : H a = some (.lst xs) → ¬ W a → ImAll K W H xs ds → Im K W H (.ref a) (.list ds)
  | tup {a : Addr} {xs : List V} {ds : List PyData} : ImT K W H a xs → ImAll K W H xs ds → Im K W H (.ref a) (.tuple ds)
  | dct {a : Addr} {kvs : List (Key × V)} {ds : List PyData} : H a = some (.dK kvs) → ¬ W a → ImAll K W H (kvs.map (·.2)) ds → Im K W H (.ref a) (.dict ((kvs.map fun p => keyD p.1).zip ds))
  | dcl {a : Addr} {o : Obj} {kvs : List (Key × V)} {ds : List PyData} : H a = some (.frz o (.dK kvs)) → ¬ W a → ImAll K W H (kvs.map (·.2)) ds → Im K W H (.ref a) (.dict (mkK :: (kvs.map fun p => keyD p.1).zip ds))
  | dcT {a : Addr} {o : Obj} {kvs : List (List Key × V)} {ds : List PyData} : H a = some (.frz o (.dT kvs)) → ¬ W a → ImAll K W H (kvs.map (·.2)) ds → Im K W H (.ref a) (.dict (mkT :: (kvs.map fun p => kyT p.1).zip ds))
  | dcN {a : Addr} {o : Obj} {kvs : List (Option Int × V)} {ds : List PyData} : H a = some (.frz o (NdO kvs a)) → ¬ W a → ImAll K W H (kvs.map (·.2)) ds → Im K W H (.ref a) (.dict (mkN :: (kvs.map fun p => oD p.1).zip ds))
  | exc {a : Addr} {cv : Value} {d : Option Addr} {c : Str} {us : List (Str × V)} {ds : List PyData} : ClsV K c cv → ExcK K cv → H a = some (ExH cv d a) → ¬ W a → XuOk W H us d → ImAll K W H (us.map (·.2)) ds → Im K W H (.ref a) (.dict ((.none, .str c) :: (us.map fun p => .str p.1).zip ds))
inductive ImAll (K : Frag) (W : Addr → Prop) (H : Hp) : List V → List PyData → Prop
  | nil : ImAll K W H [] []
  | cons {v : V} {vs : List V} {d : PyData} {ds : List PyData} : Im K W H v d → ImAll K W H vs ds → ImAll K W H (v :: vs) (d :: ds)
end
structure Zs where
  φ : List Addr
  st : Sto
  H : Hp
  F : Addr → Prop
def Zs.O (Z : Zs) (a : Addr) : Prop := ∃ (h : Nat) (c : Ct), Z.φ[h]? = some a ∧ Z.st[h]? = some c ∧ c.live
def Zs.W (Z : Zs) (a : Addr) : Prop := Z.O a ∨ Z.F a
abbrev Zs.Im (K : Frag) (Z : Zs) : V → PyData → Prop := Pz.Im K Z.W Z.H
abbrev Zs.ImAll (K : Frag) (Z : Zs) : List V → List PyData → Prop := Pz.ImAll K Z.W Z.H
structure Stay (W W' : Addr → Prop) (H H' : Hp) : Prop where
  f : ∀ b o, H b = some o → ¬ W b → (hn : NotTbl o := by exact fun _ z => nomatch z) → H' b = some o
  g : ∀ b o, H b = some o → ¬ W b → (hn : NotTbl o := by exact fun _ z => nomatch z) → ¬ W' b
theorem Stay.trans {W W1 W2 : Addr → Prop} {H H1 H2 : Hp} (a : Stay W W1 H H1) (b : Stay W1 W2 H1 H2) : Stay W W2 H H2 :=
  ⟨fun x o e n t => b.f x o (a.f x o e n t) (a.g x o e n t) t, fun x o e n t => b.g x o (a.f x o e n t) (a.g x o e n t) t⟩
def Rp (K : Frag) (Z : Zs) (v : V) : Sl → Prop
  | .d x => Z.Im K v x
  | .o h => ∃ (a : Addr) (c : Ct), v = .ref a ∧ Z.φ[h]? = some a ∧ Z.st[h]? = some c ∧ c.live
  | .r u => v = u
  | .l f W H => v = .ref f ∧ Stay W Z.W H Z.H
  | .f ns => ∃ a, v = .ref a ∧ ImL K Z.W Z.H a (ns.map V.int)
inductive RpAll (K : Frag) (Z : Zs) : List V → List Sl → Prop
  | nil : RpAll K Z [] []
  | cons {v vs s ss} : Rp K Z v s → RpAll K Z vs ss → RpAll K Z (v :: vs) (s :: ss)
theorem ClsV.eq {K : Frag} {x : Str} {c c' : Value} (h : ClsV K x c) (h' : ClsV K x c') : c = c' := by
  unfold ClsV at h h'
  rw [h] at h'
  exact Option.some.inj (Option.some.inj h')
def XcOk (K : Frag) (Z : Zs) (fs : List (Str × PyData)) : Option Addr → Prop
  | none => fs = []
  | some dx => ¬ Z.W dx ∧ ∃ us : List (Str × V), Z.H dx = some (.xd us) ∧ us.map (·.1) = fs.map (·.1) ∧ Z.ImAll K (us.map (·.2)) (fs.map (·.2))
def CtOk (K : Frag) (Z : Zs) (a : Addr) : Ct → Prop
  | .lst ds => ∃ vs, Z.H a = some (.lst vs) ∧ Z.ImAll K vs ds
  | .lsS xs => ∃ vs, Z.H a = some (.lst vs) ∧ RpAll K Z vs xs
  | .dK kvs => ∃ us : List (Key × V), Z.H a = some (.dK us) ∧ us.map (·.1) = kvs.map (·.1) ∧ Z.ImAll K (us.map (·.2)) (kvs.map (·.2))
  | .dT kvs => ∃ us : List (List Key × V), Z.H a = some (.dT us) ∧ us.map (·.1) = kvs.map (·.1) ∧ Z.ImAll K (us.map (·.2)) (kvs.map (·.2))
  | .ins C fs => ∃ (dx : Addr) (us : List (Str × V)), Z.H a = some (.ins C dx us) ∧ us.map (·.1) = fs.map (·.1) ∧ RpAll K Z (us.map (·.2)) (fs.map (·.2))
  | .dN kvs => ∃ us : List (Option Int × V), Z.H a = some (NdO us a) ∧ us.map (·.1) = kvs.map (·.1) ∧ RpAll K Z (us.map (·.2)) (kvs.map (·.2))
  | .exc c fs => ∃ cv d, ClsV K c cv ∧ Z.H a = some (ExH cv d a) ∧ XcOk K Z fs d
  | .dead => Z.H a ≠ none
structure Ok (K : Frag) (Z : Zs) : Prop where
  len : Z.φ.length = Z.st.length
  nd : Z.φ.Nodup
  ct : ∀ (h : Nat) (a : Addr) (c : Ct), Z.φ[h]? = some a → Z.st[h]? = some c → CtOk K Z a c
  fo : ∀ a, Z.F a → ∃ o, Z.H a = some o
  fd : ∀ a ∈ Z.φ, ¬ Z.F a
  tb : TabOk Z.W Z.H
structure Le (Z Z' : Zs) : Prop where
  pre : ∃ ψ : List Addr, Z'.φ = Z.φ ++ ψ ∧ ∀ a ∈ ψ, Z.H a = none
  len : Z.st.length = Z.φ.length
  liv : ∀ (h : Nat) (c : Ct), Z.st[h]? = some c → ∃ c', Z'.st[h]? = some c' ∧ (c.live ↔ c'.live)
  frm : ∀ a o, Z.H a = some o → ¬ Z.O a → NotTbl o → Z'.H a = some o
  fgn : Z'.F = Z.F
  dom : ∀ a o, Z.H a = some o → ∃ o', Z'.H a = some o'
theorem ctok_some {K : Frag} {Z : Zs} {a : Addr} {c : Ct} (h : CtOk K Z a c) : ∃ o, Z.H a = some o := by
  cases c with
  | lst ds => obtain ⟨vs, e, _⟩ := h; exact ⟨_, e⟩
  | lsS ds => obtain ⟨vs, e, _⟩ := h; exact ⟨_, e⟩
  | dK ds => obtain ⟨vs, e, _⟩ := h; exact ⟨_, e⟩
  | dT ds => obtain ⟨vs, e, _⟩ := h; exact ⟨_, e⟩
  | ins C fs => obtain ⟨dx, us, e, _⟩ := h; exact ⟨_, e⟩
  | dN kvs => obtain ⟨us, e, _⟩ := h; exact ⟨_, e⟩
  | exc c fs => obtain ⟨cv, d, _, e, _⟩ := h; exact ⟨_, e⟩
  | dead =>
    cases q : Z.H a with
    | none => exact absurd q h
    | some o => exact ⟨o, rfl⟩
theorem Ok.has {K : Frag} {Z : Zs} (ok : Ok K Z) {a : Addr} (h : a ∈ Z.φ) : ∃ o, Z.H a = some o := by
  obtain ⟨i, hi, e⟩ := List.getElem_of_mem h
  have hi2 : i < Z.st.length := by rw [← ok.len]; exact hi
  exact ctok_some (ok.ct i a Z.st[i] (by rw [List.getElem?_eq_getElem hi, e]) (List.getElem?_eq_getElem hi2))
theorem Ok.fresh {K : Frag} {Z : Zs} (ok : Ok K Z) {p : Addr} (h : Z.H p = none) : p ∉ Z.φ := fun m => by
  obtain ⟨o, e⟩ := ok.has m
  rw [h] at e; cases e
theorem Zs.O.mem {Z : Zs} {a : Addr} (h : Z.O a) : a ∈ Z.φ := by
  obtain ⟨i, c, e, _⟩ := h
  exact List.mem_of_getElem? e
theorem Ok.nw {K : Frag} {Z : Zs} (ok : Ok K Z) {p : Addr} (h : Z.H p = none) : ¬ Z.W p := fun w => by
  rcases w with w | w
  · exact ok.fresh h w.mem
  · obtain ⟨o, e⟩ := ok.fo p w
    rw [h] at e; cases e
theorem Le.refl {K : Frag} {Z : Zs} (ok : Ok K Z) : Le Z Z := ⟨⟨[], by simp, fun _ h => by cases h⟩, ok.len.symm, fun h c e => ⟨c, e, Iff.rfl⟩, fun _ _ e _ _ => e, rfl, fun _ o e => ⟨o, e⟩⟩
theorem Le.o {Z Z' : Zs} (l : Le Z Z') {a : Addr} (h : Z'.O a) : Z.O a ∨ Z.H a = none := by
  obtain ⟨i, c', e1, e2, e3⟩ := h
  obtain ⟨ψ, e, hn⟩ := l.pre
  rw [e] at e1
  by_cases hi : i < Z.φ.length
  · rw [List.getElem?_append_left hi] at e1
    have hi2 : i < Z.st.length := by rw [l.len]; exact hi
    obtain ⟨c2, q1, q2⟩ := l.liv i Z.st[i] (List.getElem?_eq_getElem hi2)
    rw [e2] at q1
    cases q1
    exact .inl ⟨i, Z.st[i], e1, List.getElem?_eq_getElem hi2, q2.mpr e3⟩
  · rw [List.getElem?_append_right (by omega)] at e1
    exact .inr (hn a (List.mem_of_getElem? e1))
theorem Le.no {Z Z' : Zs} (l : Le Z Z') {a : Addr} {o : HO} (e : Z.H a = some o) (h : ¬ Z.O a) : ¬ Z'.O a := fun w => by
  rcases l.o w with q | q
  · exact h q
  · rw [e] at q; cases q
theorem Le.nw {Z Z' : Zs} (l : Le Z Z') {a : Addr} {o : HO} (e : Z.H a = some o) (h : ¬ Z.W a) : ¬ Z'.W a := fun w => by
  rcases w with w | w
  · exact l.no e (fun z => h (.inl z)) w
  · rw [l.fgn] at w; exact h (.inr w)
theorem Le.trans {Z Z1 Z2 : Zs} (a : Le Z Z1) (b : Le Z1 Z2) : Le Z Z2 where
  pre := by
    obtain ⟨ψ, e, hn⟩ := a.pre
    obtain ⟨ψ', e', hn'⟩ := b.pre
    refine ⟨ψ ++ ψ', by rw [e', e, List.append_assoc], fun x hx => ?_⟩
    rcases List.mem_append.mp hx with h | h
    · exact hn x h
    · have q := hn' x h
      cases e : Z.H x with
      | none => rfl
      | some o =>
        obtain ⟨o', e'⟩ := a.dom x o e
        rw [e'] at q; cases q
  len := a.len
  liv := fun h c e => by
    obtain ⟨c1, e1, q1⟩ := a.liv h c e
    obtain ⟨c2, e2, q2⟩ := b.liv h c1 e1
    exact ⟨c2, e2, q1.trans q2⟩
  frm := fun x o e h t => b.frm x o (a.frm x o e h t) (a.no e h) t
  fgn := b.fgn.trans a.fgn
  dom := fun x o e => by
    obtain ⟨o1, e1⟩ := a.dom x o e
    exact b.dom x o1 e1
section
variable {K : Frag} {W W' : Addr → Prop} {H H' : Hp}
theorem Stay.rd (s : Stay W W' H H') {a : Addr} {o : HO} (h : Rd H a o) (n : ¬ W a) (hn : NotTbl o := by exact fun _ z => nomatch z) : Rd H' a o ∧ ¬ W' a := by
  rcases h with h | ⟨u, h⟩
  · exact ⟨.inl (s.f _ _ h n hn), s.g _ _ h n hn⟩
  · exact ⟨.inr ⟨u, s.f _ _ h n⟩, s.g _ _ h n⟩
theorem ImL.tr (s : Stay W W' H H') {a : Addr} {xs : List V} (h : ImL K W H a xs) : ImL K W' H' a xs := h.elim (fun q => .inl (s.rd q.1 q.2)) .inr
theorem ImT.tr (s : Stay W W' H H') {a : Addr} {xs : List V} (h : ImT K W H a xs) : ImT K W' H' a xs := h.elim (fun q => .inl ⟨s.f _ _ q.1 q.2, s.g _ _ q.1 q.2⟩) .inr
theorem xu_tr (s : Stay W W' H H') {us : List (Str × V)} : ∀ {d : Option Addr}, XuOk W H us d → XuOk W' H' us d
  | none, h => h
  | some _, ⟨h1, h2⟩ => ⟨s.g _ _ h2 h1, s.f _ _ h2 h1⟩
mutual
theorem Im.tr (s : Stay W W' H H') : ∀ {v : V} {d : PyData}, Im K W H v d → Im K W' H' v d
  | _, _, .non => .non
  | _, _, .bl b => .bl b
  | _, _, .int b => .int b
  | _, _, .str b => .str b
  | _, _, .lst q n r => .lst (s.f _ _ q n) (s.g _ _ q n) (ImAll.tr s r)
  | _, _, .tup q r => .tup (q.tr s) (ImAll.tr s r)
  | _, _, .dct q n r => .dct (s.f _ _ q n) (s.g _ _ q n) (ImAll.tr s r)
  | _, _, .dcl q n r => .dcl (s.f _ _ q n) (s.g _ _ q n) (ImAll.tr s r)
  | _, _, .dcT q n r => .dcT (s.f _ _ q n) (s.g _ _ q n) (ImAll.tr s r)
  | _, _, .dcN q n r => .dcN (s.f _ _ q n) (s.g _ _ q n) (ImAll.tr s r)
  | _, _, .exc c k q n x r => .exc c k (s.f _ _ q n) (s.g _ _ q n) (xu_tr s x) (ImAll.tr s r)
theorem ImAll.tr (s : Stay W W' H H') : ∀ {vs : List V} {ds : List PyData}, ImAll K W H vs ds → ImAll K W' H' vs ds
  | _, _, .nil => .nil
  | _, _, .cons q r => .cons (Im.tr s q) (ImAll.tr s r)
end
theorem ImAll.length : ∀ {vs : List V} {ds : List PyData}, ImAll K W H vs ds → vs.length = ds.length
  | _, _, .nil => rfl
  | _, _, .cons _ r => by rw [List.length_cons, List.length_cons, ImAll.length r]
theorem ImAll.append : ∀ {vs vs' : List V} {ds ds' : List PyData}, ImAll K W H vs ds → ImAll K W H vs' ds' → ImAll K W H (vs ++ vs') (ds ++ ds')
  | _, _, _, _, .nil, s => s
  | _, _, _, _, .cons q r, s => .cons q (ImAll.append r s)
theorem ImAll.get : ∀ {vs : List V} {ds : List PyData} {i : Nat} {v : V}, ImAll K W H vs ds → vs[i]? = some v → ∃ d, ds[i]? = some d ∧ Im K W H v d
  | _, _, 0, _, .cons q _, e => by simp at e; subst e; exact ⟨_, rfl, q⟩
  | _, _, i + 1, v, .cons _ r, e => by simpa using ImAll.get (i := i) (v := v) r (by simpa using e)
theorem ImAll.get' : ∀ {vs : List V} {ds : List PyData} {i : Nat} {d : PyData}, ImAll K W H vs ds → ds[i]? = some d → ∃ v, vs[i]? = some v ∧ Im K W H v d
  | _, _, 0, _, .cons q _, e => by simp at e; subst e; exact ⟨_, rfl, q⟩
  | _, _, i + 1, v, .cons _ r, e => by simpa using ImAll.get' (i := i) (d := v) r (by simpa using e)
theorem ImAll.set {v : V} {d : PyData} (q : Im K W H v d) : ∀ {vs : List V} {ds : List PyData} (i : Nat), ImAll K W H vs ds → ImAll K W H (vs.set i v) (ds.set i d)
  | _, _, _, .nil => .nil
  | _, _, 0, .cons _ t => .cons q t
  | _, _, i + 1, .cons p t => .cons p (ImAll.set q i t)
theorem ImAll.take : ∀ {vs : List V} {ds : List PyData} (n : Nat), ImAll K W H vs ds → ImAll K W H (vs.take n) (ds.take n)
  | _, _, 0, _ => .nil
  | _, _, _ + 1, .nil => .nil
  | _, _, n + 1, .cons r t => .cons r (ImAll.take n t)
theorem ImAll.drop : ∀ {vs : List V} {ds : List PyData} (n : Nat), ImAll K W H vs ds → ImAll K W H (vs.drop n) (ds.drop n)
  | _, _, 0, r => r
  | _, _, _ + 1, .nil => .nil
  | _, _, n + 1, .cons _ t => ImAll.drop n t
theorem ImAll.reverse : ∀ {vs : List V} {ds : List PyData}, ImAll K W H vs ds → ImAll K W H vs.reverse ds.reverse
  | _, _, .nil => .nil
  | _, _, .cons q r => by
    rw [List.reverse_cons, List.reverse_cons]
    exact (ImAll.reverse r).append (.cons q .nil)
mutual
theorem Im.dp : ∀ {v : V} {d : PyData}, Im K W H v d → d.hasDict = false → Dp K H v d
  | _, _, .non, _ => .non
  | _, _, .bl b, _ => .bl b
  | _, _, .int b, _ => .int b
  | _, _, .str b, _ => .str b
  | _, _, .lst q n r, e => .lst (.of q) (ImAll.dp r (by simpa [PyData.hasDict] using e))
  | _, _, .tup q r, e => .tup q.sq (ImAll.dp r (by simpa [PyData.hasDict] using e))
  | _, _, .dct q n r, e => by simp [PyData.hasDict] at e
  | _, _, .dcl q n r, e => by simp [PyData.hasDict] at e
  | _, _, .dcT q n r, e => by simp [PyData.hasDict] at e
  | _, _, .dcN q n r, e => by simp [PyData.hasDict] at e
  | _, _, .exc _ _ _ _ _ _, e => by simp [PyData.hasDict] at e
theorem ImAll.dp : ∀ {vs : List V} {ds : List PyData}, ImAll K W H vs ds → PyData.hasDictAll ds = false → DpAll K H vs ds
  | _, _, .nil, _ => .nil
  | _, _, .cons q r, e => by
    simp only [PyData.hasDictAll, Bool.or_eq_false_iff] at e
    exact .cons (Im.dp q e.1) (ImAll.dp r e.2)
end
end
section
variable {K : Frag} {Z Z' : Zs}
theorem Le.stay (l : Le Z Z') : Stay Z.W Z'.W Z.H Z'.H := ⟨fun b o e n t => l.frm b o e (fun z => n (.inl z)) t, fun _ _ e n _ => l.nw e n⟩
theorem Rp.tr (l : Le Z Z') {v : V} {s : Sl} (h : Rp K Z v s) : Rp K Z' v s := by
  cases s with
  | d x => exact Im.tr l.stay h
  | o i =>
    obtain ⟨a, c, e, e1, e2, e3⟩ := h
    obtain ⟨ψ, q, _⟩ := l.pre
    obtain ⟨c', q1, q2⟩ := l.liv i c e2
    refine ⟨a, c', e, ?_, q1, q2.mp e3⟩
    rw [q, List.getElem?_append_left (List.getElem?_eq_some_iff.mp e1).1]
    exact e1
  | r u => exact h
  | l _ _ _ => exact ⟨h.1, h.2.trans l.stay⟩
  | f ns => obtain ⟨a, e, q⟩ := h; exact ⟨a, e, q.tr l.stay⟩
theorem RpAll.tr (l : Le Z Z') : ∀ {vs : List V} {ss : List Sl}, RpAll K Z vs ss → RpAll K Z' vs ss
  | _, _, .nil => .nil
  | _, _, .cons q r => .cons (q.tr l) (RpAll.tr l r)
theorem RpAll.length : ∀ {vs : List V} {ss : List Sl}, RpAll K Z vs ss → vs.length = ss.length
  | _, _, .nil => rfl
  | _, _, .cons _ r => by rw [List.length_cons, List.length_cons, RpAll.length r]
def Zs.new (Z : Zs) (p : Addr) (o : HO) : Zs := { Z with H := upd Z.H p o }
theorem upd_keep {H : Hp} {p b : Addr} {o u : HO} (n : H p = none) (e : H b = some u) : upd H p o b = some u := by
  rw [upd_ne (ne_of_none e n)]; exact e
theorem Ok.leNew (ok : Ok K Z) {p : Addr} {o : HO} (n : Z.H p = none) : Le Z (Z.new p o) where
  pre := ⟨[], by simp [Zs.new], fun _ h => by cases h⟩
  len := ok.len.symm
  liv := fun h c e => ⟨c, e, Iff.rfl⟩
  frm := fun a u e _ _ => upd_keep n e
  fgn := rfl
  dom := fun a u e => ⟨u, upd_keep n e⟩
theorem XcOk.tr (s : Stay Z.W Z'.W Z.H Z'.H) {fs : List (Str × PyData)} : ∀ {d : Option Addr}, XcOk K Z fs d → XcOk K Z' fs d
  | none, h => h
  | some dx, h => by
    obtain ⟨n, us, e, e2, q⟩ := h
    exact ⟨s.g _ _ e n, us, s.f _ _ e n, e2, ImAll.tr s q⟩
theorem ctok_st (s : Stay Z.W Z'.W Z.H Z'.H) (hr : ∀ {v : V} {x : Sl}, Rp K Z v x → Rp K Z' v x) {a : Addr} (hH : ∀ o, Z.H a = some o → NotTbl o → Z'.H a = some o) (hD : ∀ o, Z.H a = some o → ∃ o', Z'.H a = some o') : ∀ {c : Ct}, CtOk K Z a c → CtOk K Z' a c
  | .lst ds, h => by obtain ⟨vs, e, q⟩ := h; exact ⟨vs, hH _ e (fun _ z => nomatch z), ImAll.tr s q⟩
  | .lsS xs, h => by
    obtain ⟨vs, e, q⟩ := h
    refine ⟨vs, hH _ e (fun _ z => nomatch z), ?_⟩
    have : ∀ {vs : List V} {ss : List Sl}, RpAll K Z vs ss → RpAll K Z' vs ss := by
      intro vs ss r
      induction r with
      | nil => exact .nil
      | cons p _ ih => exact .cons (hr p) ih
    exact this q
  | .dK kvs, h => by obtain ⟨vs, e, e2, q⟩ := h; exact ⟨vs, hH _ e (fun _ z => nomatch z), e2, ImAll.tr s q⟩
  | .dT kvs, h => by obtain ⟨vs, e, e2, q⟩ := h; exact ⟨vs, hH _ e (fun _ z => nomatch z), e2, ImAll.tr s q⟩
  | .ins C fs, h => by
    obtain ⟨dx, us, e, e2, q⟩ := h
    refine ⟨dx, us, hH _ e (fun _ z => nomatch z), e2, ?_⟩
    have : ∀ {vs : List V} {ss : List Sl}, RpAll K Z vs ss → RpAll K Z' vs ss := by
      intro vs ss r
      induction r with
      | nil => exact .nil
      | cons p _ ih => exact .cons (hr p) ih
    exact this q
  | .dN kvs, h => by
    obtain ⟨us, e, e2, q⟩ := h
    refine ⟨us, hH _ e (fun _ z => nomatch z), e2, ?_⟩
    have : ∀ {vs : List V} {ss : List Sl}, RpAll K Z vs ss → RpAll K Z' vs ss := by
      intro vs ss r
      induction r with
      | nil => exact .nil
      | cons p _ ih => exact .cons (hr p) ih
    exact this q
  | .exc c fs, h => by obtain ⟨cv, d, hc, e, q⟩ := h; exact ⟨cv, d, hc, hH _ e (fun _ z => nomatch z), q.tr s⟩
  | .dead, h => fun z => by
    cases q : Z.H a with
    | none => exact h q
    | some o => obtain ⟨o', e'⟩ := hD _ q; rw [e'] at z; cases z
theorem tabs_upd1 {T : List (Addr × Str)} {H : Hp} {a : Addr} {o : HO} (t : LamX.Tabs T H) (h1 : ∀ ps, H a ≠ some (.tbl ps)) (h2 : ∀ c q, H a ≠ some (LamX.CodeO c q)) : LamX.Tabs T (upd H a o) := fun p hp => by
  obtain ⟨ps, e1, e2, e3⟩ := t p hp
  refine ⟨ps, ?_, e2, fun pos cv hc => ?_⟩
  · rw [upd_ne (fun z => h1 ps (by rw [← z]; exact e1))]; exact e1
  · obtain ⟨c, q1, q2⟩ := e3 pos cv hc
    exact ⟨c, q1, by rw [upd_ne (fun z => h2 c _ (by rw [← z]; exact q2))]; exact q2⟩
theorem tabs_upd {W W' : Addr → Prop} {H : Hp} {a : Addr} {o : HO} (t : TabOk W H) (h1 : ∀ ps, H a ≠ some (.tbl ps)) (h2 : ∀ c q, H a ≠ some (LamX.CodeO c q)) (hW : ∀ x, W' x → W x ∨ H x = none) (ho : NotTbl o := by exact fun _ z => nomatch z) (ht : ∀ xs, o = .tup xs → ¬ W' a := by exact fun _ z => nomatch z) : TabOk W' (upd H a o) :=
  ⟨tabs_upd1 t.1 h1 h2, fun b ps e => by
    by_cases hb : b = a
    · subst hb
      rw [upd_same] at e
      exact absurd (Option.some.inj e) (ho ps)
    · rw [upd_ne hb] at e
      exact t.2.1 b ps e, (fun p hp ps e pos c hc w => by
    obtain ⟨us, e1, e2, e3⟩ := t.1 p hp
    have hp1 : p.1 ≠ a := fun z => h1 us (by rw [← z]; exact e1)
    rw [upd_ne hp1, e1] at e
    cases e
    rcases hW c w with z | z
    · exact t.2.2.1 p hp _ e1 pos c hc z
    · obtain ⟨c', q1, q2⟩ := e3 pos _ hc
      cases q1
      rw [z] at q2
      cases q2), fun b xs e w => by
    by_cases hb : b = a
    · subst hb
      rw [upd_same] at e
      exact ht xs (Option.some.inj e) w
    · rw [upd_ne hb] at e
      rcases hW b w with z | z
      · exact t.2.2.2 b xs e z
      · rw [z] at e; cases e⟩
theorem tabs_new {W W' : Addr → Prop} {H : Hp} {a : Addr} {o : HO} (t : TabOk W H) (n : H a = none) (hW : ∀ x, W' x → W x ∨ H x = none) (ho : NotTbl o := by exact fun _ z => nomatch z) (ht : ∀ xs, o = .tup xs → ¬ W' a := by exact fun _ z => nomatch z) : TabOk W' (upd H a o) := tabs_upd t (fun _ z => by rw [n] at z; cases z) (fun _ _ z => by rw [n] at z; cases z) hW ho ht
theorem CtOk.notup {K : Frag} {Z : Zs} {a : Addr} {c : Ct} (h : CtOk K Z a c) (l : c.live) (xs : List V) : Z.H a ≠ some (.tup xs) := fun z => by
  cases c with
  | lst ds => obtain ⟨vs, e, _⟩ := h; rw [e] at z; cases z
  | lsS ds => obtain ⟨vs, e, _⟩ := h; rw [e] at z; cases z
  | dK ds => obtain ⟨vs, e, _⟩ := h; rw [e] at z; cases z
  | dT ds => obtain ⟨vs, e, _⟩ := h; rw [e] at z; cases z
  | ins C fs => obtain ⟨dx, us, e, _⟩ := h; rw [e] at z; cases z
  | dN kvs => obtain ⟨us, e, _⟩ := h; rw [e] at z; cases z
  | exc c fs => obtain ⟨cv, d, _, e, _⟩ := h; rw [e] at z; cases z
  | dead => exact l
theorem Le.w {Z Z' : Zs} (l : Le Z Z') : ∀ x, Z'.W x → Z.W x ∨ Z.H x = none := fun x w => by
  rcases w with w | w
  · exact (l.o w).elim (fun z => .inl (.inl z)) .inr
  · rw [l.fgn] at w; exact .inl (.inr w)
theorem Ok.new (ok : Ok K Z) {p : Addr} {o : HO} (n : Z.H p = none) (ho : NotTbl o := by exact fun _ z => nomatch z) : Ok K (Z.new p o) where
  len := ok.len
  nd := ok.nd
  ct := fun h a c e1 e2 => ctok_st (ok.leNew n).stay (fun q => q.tr (ok.leNew n)) (fun u e _ => upd_keep n e) (fun u e => ⟨u, upd_keep n e⟩) (ok.ct h a c e1 e2)
  fo := fun a h => let ⟨u, e⟩ := ok.fo a h; ⟨u, upd_keep n e⟩
  fd := ok.fd
  tb := tabs_new ok.tb n (ok.leNew (o := o) n).w ho fun _ _ w => ok.nw n w
theorem Ok.rpL (ok : Ok K Z) {p : Addr} {xs : List V} {ds : List PyData} (n : Z.H p = none) (h : Z.ImAll K xs ds) : Rp K (Z.new p (.lst xs)) (.ref p) (.d (.list ds)) :=
  Im.lst upd_same (fun w => ok.nw n w) (ImAll.tr (ok.leNew n).stay h)
theorem Ok.rpT (ok : Ok K Z) {p : Addr} {xs : List V} {ds : List PyData} (n : Z.H p = none) (h : Z.ImAll K xs ds) : Rp K (Z.new p (.tup xs)) (.ref p) (.d (.tuple ds)) :=
  Im.tup (.inl ⟨upd_same, fun w => ok.nw n w⟩) (ImAll.tr (ok.leNew n).stay h)
def vw (st : Sto) : Sl → Option PyData
  | .d x => some x
  | .o h => match st[h]? with
    | some (.lst ds) => some (.list ds)
    | _ => none
  | .r _ => none
  | .l _ _ _ => none
  | .f _ => none
theorem Rp.list (ok : Ok K Z) {v : V} {s : Sl} {ds : List PyData} (h : Rp K Z v s) (e : vw Z.st s = some (.list ds)) : ∃ a xs, v = .ref a ∧ Z.H a = some (.lst xs) ∧ Z.ImAll K xs ds := by
  cases s with
  | d x =>
    simp only [vw, Option.some.injEq] at e
    subst e
    cases h with
    | lst q _ r => exact ⟨_, _, rfl, q, r⟩
  | o i =>
    obtain ⟨a, c, ev, e1, e2, e3⟩ := h
    simp only [vw, e2] at e
    cases c with
    | lst ds' =>
      simp only [Option.some.injEq, PyData.list.injEq] at e
      subst e
      obtain ⟨vs, q, r⟩ := ok.ct i a _ e1 e2
      exact ⟨a, vs, ev, q, r⟩
    | _ => simp at e
  | r u => simp [vw] at e
  | l _ _ _ => simp [vw] at e
  | f ns => simp [vw] at e
theorem Rp.data {v : V} {s : Sl} {x : PyData} (h : Rp K Z v s) (e : vw Z.st s = some x) (n : ∀ ds, x ≠ .list ds) : Z.Im K v x := by
  cases s with
  | d y => simp only [vw, Option.some.injEq] at e; subst e; exact h
  | o i =>
    obtain ⟨a, c, ev, e1, e2, e3⟩ := h
    simp only [vw, e2] at e
    cases c with
    | lst ds' => simp only [Option.some.injEq] at e; exact absurd e.symm (n ds')
    | _ => simp at e
  | r u => simp [vw] at e
  | l _ _ _ => simp [vw] at e
  | f ns => simp [vw] at e
theorem Rp.int {v : V} {s : Sl} {i : Int} (h : Rp K Z v s) (e : vw Z.st s = some (.int i)) : v = .int i := by
  have q := h.data e (fun _ z => nomatch z); cases q; rfl
theorem Rp.str {v : V} {s : Sl} {i : Str} (h : Rp K Z v s) (e : vw Z.st s = some (.str i)) : v = .str i := by
  have q := h.data e (fun _ z => nomatch z); cases q; rfl
theorem Rp.bl {v : V} {s : Sl} {i : Bool} (h : Rp K Z v s) (e : vw Z.st s = some (.bool i)) : v = .bl i := by
  have q := h.data e (fun _ z => nomatch z); cases q; rfl
theorem Rp.non {v : V} {s : Sl} (h : Rp K Z v s) (e : vw Z.st s = some .none) : v = .non := by
  have q := h.data e (fun _ z => nomatch z); cases q; rfl
theorem Rp.tuple {v : V} {s : Sl} {ds : List PyData} (h : Rp K Z v s) (e : vw Z.st s = some (.tuple ds)) : ∃ a xs, v = .ref a ∧ ImT K Z.W Z.H a xs ∧ Z.ImAll K xs ds := by
  have q := h.data e (fun _ z => nomatch z)
  cases q with
  | tup q r => exact ⟨_, _, rfl, q, r⟩
theorem Rp.dp (ok : Ok K Z) {v : V} {s : Sl} {x : PyData} (h : Rp K Z v s) (e : vw Z.st s = some x) (n : x.hasDict = false) : Dp K Z.H v x := by
  cases s with
  | d y => simp only [vw, Option.some.injEq] at e; subst e; exact Im.dp h n
  | o i =>
    obtain ⟨a, c, ev, e1, e2, e3⟩ := id h
    simp only [vw, e2] at e
    cases c with
    | lst ds' =>
      simp only [Option.some.injEq] at e
      subst e
      obtain ⟨vs, q, r⟩ := ok.ct i a _ e1 e2
      subst ev
      exact .lst (.of q) (ImAll.dp r (by simpa [PyData.hasDict] using n))
    | _ => simp at e
  | r u => simp [vw] at e
  | l _ _ _ => simp [vw] at e
  | f ns => simp [vw] at e
end
abbrev DK := Sl → Sto → Prop
abbrev DX := Str → List (Str × PyData) → Sls → Sto → Prop
abbrev DE := DX → Sls → Sto → DK → Prop
abbrev DT := DX → Sls → Sto → (Bool → Sto → Prop) → Prop
abbrev DA := DX → Sls → Sto → (List Sl → Sto → Prop) → Prop
structure DEnds where
  nx : Sls → Sto → Prop
  rt : DK
  ex : DX
  bk : Sls → Sto → Prop := fun _ _ => False
  ct : Sls → Sto → Prop := fun _ _ => False
abbrev DS := DEnds → Sls → Sto → Prop
def nthS : Sls → Nat → Option Sl
  | [], _ => none
  | s :: _, 0 => s
  | _ :: r, i + 1 => nthS r i
theorem nthS_get : ∀ {sl : Sls} {i : Nat} {s : Sl}, nthS sl i = some s → sl[i]? = some (some s)
  | [], _, _, h => by simp [nthS] at h
  | _ :: _, 0, _, h => by simp [nthS] at h; simp [h]
  | _ :: r, i + 1, s, h => by
    rw [List.getElem?_cons_succ]
    exact nthS_get (by simpa [nthS] using h)
structure SlOk (K : Frag) (Z : Zs) (σ : L2.St) (sl : Sls) : Prop where
  len : sl.length = σ.length
  has : ∀ (i : Nat) (s : Sl), sl[i]? = some (some s) → ∃ v, σ[i]? = some (some v) ∧ Rp K Z v s
theorem SlOk.tr {K : Frag} {Z Z' : Zs} {σ : L2.St} {sl : Sls} (l : Le Z Z') (h : SlOk K Z σ sl) : SlOk K Z' σ sl :=
  ⟨h.len, fun i s e => let ⟨v, q, r⟩ := h.has i s e; ⟨v, q, r.tr l⟩⟩
theorem SlOk.set {K : Frag} {Z : Zs} {σ : L2.St} {sl : Sls} (h : SlOk K Z σ sl) (i : Nat) {v : V} {s : Sl} (r : Rp K Z v s) : SlOk K Z (σ.set i (some v)) (sl.set i (some s)) := by
  refine ⟨by simpa using h.len, fun j t e => ?_⟩
  by_cases hj : i = j
  · subst hj
    have hi : i < sl.length := by
      rcases Nat.lt_or_ge i sl.length with q | q
      · exact q
      · rw [List.getElem?_eq_none (by simpa using q)] at e; cases e
    rw [List.getElem?_set_self hi] at e
    cases e
    exact ⟨v, List.getElem?_set_self (by rw [← h.len]; exact hi), r⟩
  · rw [List.getElem?_set_ne hj] at e
    obtain ⟨u, q, r'⟩ := h.has j t e
    exact ⟨u, by rw [List.getElem?_set_ne hj]; exact q, r'⟩
def KOk (K : Frag) (Z : Zs) (Qd : DK) (Q : VK) : Prop := ∀ (Z' : Zs) (v : V) (s : Sl), Le Z Z' → Ok K Z' → Rp K Z' v s → Qd s Z'.st → Q v Z'.H
def KTOk (K : Frag) (Z : Zs) (Qd : Bool → Sto → Prop) (Q : Bool → Hp → Prop) : Prop := ∀ (Z' : Zs) (b : Bool), Le Z Z' → Ok K Z' → Qd b Z'.st → Q b Z'.H
def KAOk (K : Frag) (Z : Zs) (Qd : List Sl → Sto → Prop) (Q : List V → Hp → Prop) : Prop := ∀ (Z' : Zs) (vs : List V) (ss : List Sl), Le Z Z' → Ok K Z' → RpAll K Z' vs ss → Qd ss Z'.st → Q vs Z'.H
abbrev XdOk (K : Frag) (Z : Zs) (fs : List (Str × PyData)) (d : Option Addr) : Prop := XcOk K Z fs d
abbrev WXs := Value → Option Addr → L2.St → Hp → Prop
abbrev W0 : WXs := fun _ _ _ _ => False
def KXOk (K : Frag) (Z : Zs) (Ed : DX) (E : WXs) : Prop := ∀ (Z' : Zs) (σ : L2.St) (sl : Sls) (c : Value) (x : Str) (d : Option Addr) (fs : List (Str × PyData)), Le Z Z' → Ok K Z' → SlOk K Z' σ sl → XdOk K Z' fs d → ClsV K x c → Ed x fs sl Z'.st → E c d σ Z'.H
theorem KXOk.le {K : Frag} {Z Z1 : Zs} {Ed : DX} {E : WXs} (l : Le Z Z1) (h : KXOk K Z Ed E) : KXOk K Z1 Ed E := fun Z' σ sl c x d fs l' => h Z' σ sl c x d fs (l.trans l')
theorem KOk.le {K : Frag} {Z Z1 : Zs} {Qd : DK} {Q : VK} (l : Le Z Z1) (h : KOk K Z Qd Q) : KOk K Z1 Qd Q := fun Z' v s l' => h Z' v s (l.trans l')
def upE (K : Frag) (E : WXs) (τ : DE) : TE := fun σ H Q => ∃ (Z : Zs) (sl : Sls) (Qd : DK) (Ed : DX), Z.H = H ∧ Ok K Z ∧ SlOk K Z σ sl ∧ τ Ed sl Z.st Qd ∧ KOk K Z Qd Q ∧ KXOk K Z Ed E
def upT (K : Frag) (E : WXs) (τ : DT) : TT := fun σ H Q => ∃ (Z : Zs) (sl : Sls) (Qd : Bool → Sto → Prop) (Ed : DX), Z.H = H ∧ Ok K Z ∧ SlOk K Z σ sl ∧ τ Ed sl Z.st Qd ∧ KTOk K Z Qd Q ∧ KXOk K Z Ed E
def upA (K : Frag) (E : WXs) (τ : DA) : TA := fun σ H Q => ∃ (Z : Zs) (sl : Sls) (Qd : List Sl → Sto → Prop) (Ed : DX), Z.H = H ∧ Ok K Z ∧ SlOk K Z σ sl ∧ τ Ed sl Z.st Qd ∧ KAOk K Z Qd Q ∧ KXOk K Z Ed E
structure DEx (X : Cx) (E : WXs) (e : Expr) (τ : DE) : Prop where
  run : PE X e (upE X.K E τ)
structure DTs (X : Cx) (E : WXs) (e : Expr) (τ : DT) : Prop where
  run : PT X e (upT X.K E τ)
structure DWs (X : Cx) (E : WXs) (e : Expr) (τ : DT) : Prop where
  run : PW X e (upT X.K E τ)
structure DAs (X : Cx) (E : WXs) (es : List Expr) (τ : DA) : Prop where
  run : PA X es (upA X.K E τ)
abbrev Kp (Z Z' : Zs) : Prop := Stay Z.W Z'.W Z.H Z'.H
def KXK (K : Frag) (Z0 Zc : Zs) (Ed : DX) (E : WXs) : Prop := ∀ (Z' : Zs) (σ : L2.St) (sl : Sls) (c : Value) (x : Str) (d : Option Addr) (fs : List (Str × PyData)), Le Z0 Z' → Kp Zc Z' → Ok K Z' → SlOk K Z' σ sl → XdOk K Z' fs d → ClsV K x c → Ed x fs sl Z'.st → E c d σ Z'.H
theorem KXK.le {K : Frag} {Z0 Z : Zs} {Ed : DX} {E : WXs} (h : KXK K Z0 Z Ed E) (l : Le Z0 Z) : KXOk K Z Ed E := fun Z' σ sl c x d fs l' => h Z' σ sl c x d fs (l.trans l') l'.stay
theorem KXK.at {K : Frag} {Z0 Zc Z1 : Zs} {Ed : DX} {E : WXs} (h : KXK K Z0 Zc Ed E) (l : Kp Zc Z1) : KXK K Z0 Z1 Ed E := fun Z' σ sl c x d fs l0 l' => h Z' σ sl c x d fs l0 (l.trans l')
structure EndsOk (K : Frag) (E : WXs) (Z0 Zc : Zs) (Dd : DEnds) (D : Ends) : Prop where
  nx : ∀ (Z : Zs) (sl : Sls) (σ : L2.St), Le Z0 Z → Kp Zc Z → Ok K Z → SlOk K Z σ sl → Dd.nx sl Z.st → D.nx σ Z.H
  rt : ∀ (Z : Zs) (v : V) (s : Sl), Le Z0 Z → Ok K Z → Rp K Z v s → Dd.rt s Z.st → D.rt v Z.H
  ex : KXK K Z0 Zc Dd.ex E
  bk : ∀ (Z : Zs) (sl : Sls) (σ : L2.St), Le Z0 Z → Kp Zc Z → Ok K Z → SlOk K Z σ sl → Dd.bk sl Z.st → D.bk σ Z.H
  ct : ∀ (Z : Zs) (sl : Sls) (σ : L2.St), Le Z0 Z → Kp Zc Z → Ok K Z → SlOk K Z σ sl → Dd.ct sl Z.st → D.ct σ Z.H
theorem EndsOk.at {K : Frag} {E : WXs} {Z0 Zc Z1 : Zs} {Dd : DEnds} {D : Ends} (h : EndsOk K E Z0 Zc Dd D) (l : Kp Zc Z1) : EndsOk K E Z0 Z1 Dd D :=
  ⟨fun Z sl σ a b => h.nx Z sl σ a (l.trans b), h.rt, h.ex.at l, fun Z sl σ a b => h.bk Z sl σ a (l.trans b), fun Z sl σ a b => h.ct Z sl σ a (l.trans b)⟩
def upS (K : Frag) (E : WXs) (Z0 : Zs) (τ : DS) : TS := fun D σ H => ∃ (Z : Zs) (sl : Sls) (Dd : DEnds), Z.H = H ∧ Le Z0 Z ∧ Ok K Z ∧ SlOk K Z σ sl ∧ τ Dd sl Z.st ∧ EndsOk K E Z0 Z Dd D
structure DSt (X : Cx) (E : WXs) (Z0 : Zs) (st : Stmt) (τ : DS) : Prop where
  run : PS X st (upS X.K E Z0 τ)
structure DSs (X : Cx) (E : WXs) (Z0 : Zs) (st : List Stmt) (τ : DS) : Prop where
  run : PSs X st (upS X.K E Z0 τ)
section
variable {X : Cx}
theorem peI {e : Expr} {t t' : TE} (h : PE X e t) (i : ∀ σ H Q, t' σ H Q → t σ H Q) : PE X e t' := ⟨fun pins s σ H Q I q => h.run pins s σ H Q I (i σ H Q q)⟩
theorem ptI {e : Expr} {t t' : TT} (h : PT X e t) (i : ∀ σ H Q, t' σ H Q → t σ H Q) : PT X e t' := ⟨fun pins s σ H Q I q => h.run pins s σ H Q I (i σ H Q q)⟩
theorem pwI {e : Expr} {t t' : TT} (h : PW X e t) (i : ∀ σ H Q, t' σ H Q → t σ H Q) : PW X e t' := ⟨fun wh pins s σ H Q I q => h.run wh pins s σ H Q I (i σ H Q q)⟩
theorem paI {e : List Expr} {t t' : TA} (h : PA X e t) (i : ∀ σ H Q, t' σ H Q → t σ H Q) : PA X e t' := ⟨fun po pins s σ H Q I q => h.run po pins s σ H Q I (i σ H Q q)⟩
theorem psI {e : Stmt} {t t' : TS} (h : PS X e t) (i : ∀ D σ H, t' D σ H → t D σ H) : PS X e t' := ⟨fun pins s σ H D I q => h.run pins s σ H D I (i D σ H q)⟩
theorem pssI {e : List Stmt} {t t' : TS} (h : PSs X e t) (i : ∀ D σ H, t' D σ H → t D σ H) : PSs X e t' := ⟨fun pins s σ H D I q => h.run pins s σ H D I (i D σ H q)⟩
end
section
variable {X : Cx} {E : WXs} {Z0 : Zs} {a b c : Expr} {ta tb tc : DE} {pos : Pos}
def wC (s : Sl) : DE := fun _ _ st Q => Q s st
def wVar (i : Nat) : DE := fun _ sl st Q => match nthS sl i with
  | some s => Q s st
  | none => False
theorem de_c {e : Expr} {v : V} {x : PyData} (h : PE X e (tC v)) (r : ∀ (Z : Zs), Z.Im X.K v x) : DEx X E e (wC (.d x)) := ⟨peI h fun σ H Q ⟨Z, sl, Qd, Ed, e, ok, so, w, k, kx⟩ => by
  subst e
  exact k Z v (.d x) (.refl ok) ok (r Z) w⟩
theorem de_int {i j pos} : DEx X E (.Constant (.int i) j pos) (wC (.d (.int i))) := de_c pe_int fun _ => .int i
theorem de_bl {i j pos} : DEx X E (.Constant (.bool i) j pos) (wC (.d (.bool i))) := de_c pe_bl fun _ => .bl i
theorem de_non {j pos} : DEx X E (.Constant .none j pos) (wC (.d .none)) := de_c pe_non fun _ => .non
theorem de_str {i j pos} : DEx X E (.Constant (.str i) j pos) (wC (.d (.str i))) := de_c pe_str fun _ => .str i
theorem de_v (i : Nat) {x : Str} (h : PE X (.Name x pos) (tVar i)) : DEx X E (.Name x pos) (wVar i) := ⟨peI h fun σ H Q ⟨Z, sl, Qd, Ed, e, ok, so, w, k, kx⟩ => by
  subst e
  unfold wVar at w
  split at w
  · rename_i s es
    obtain ⟨v, q, r⟩ := so.has i s (nthS_get es)
    exact ⟨v, q, k Z v s (.refl ok) ok r w⟩
  · exact w.elim⟩
def D2 (K : Frag) (r : R2) (f : Sl → Sl → Sto → DK → Prop) : Prop := ∀ (Z : Zs) (v u : V) (s t : Sl) (Qd : DK) (Q : VK), Ok K Z → Rp K Z v s → Rp K Z u t → f s t Z.st Qd → KOk K Z Qd Q → r v u Z.H Q
def wOp (f : Sl → Sl → Sto → DK → Prop) (ta tb : DE) : DE := fun Ed sl st Q => ta Ed sl st fun x st => tb Ed sl st fun y st => f x y st Q
theorem wOp_ok {K : Frag} {r : R2} {f : Sl → Sl → Sto → DK → Prop} (hd : D2 K r f) (σ : L2.St) (H : Hp) (Q : VK) (h : upE K E (wOp f ta tb) σ H Q) : tOp r (upE K E ta) (upE K E tb) σ H Q := by
  obtain ⟨Z, sl, Qd, Ed, e, ok, so, w, k, kx⟩ := h
  refine ⟨Z, sl, _, Ed, e, ok, so, w, fun Z1 v s l1 ok1 r1 w1 => ?_, kx⟩
  refine ⟨Z1, sl, _, Ed, rfl, ok1, so.tr l1, w1, fun Z2 u t l2 ok2 r2 w2 => ?_, kx.le l1⟩
  exact hd Z2 v u s t Qd Q ok2 (r1.tr l2) r2 w2 (k.le (l1.trans l2))
theorem de_op {op : Operator} {r : R2} {f : Sl → Sl → Sto → DK → Prop} (hd : D2 X.K r f) (ho : OpR X (binaryOp op) r) (ha : DEx X E a ta) (hb : DEx X E b tb) : DEx X E (.BinOp a op b pos) (wOp f ta tb) :=
  ⟨peI (pe_op ho ha.run hb.run) (wOp_ok hd)⟩
theorem de_cmp {op : CmpOp} {r : R2} {f : Sl → Sl → Sto → DK → Prop} (hd : D2 X.K r f) (ho : OpR X (compareOp op) r) (ha : DEx X E a ta) (hb : DEx X E b tb) (hm : behindInMarks op b = false) : DEx X E (.Compare a [op] [b] pos) (wOp f ta tb) :=
  ⟨peI (pe_cmpR ho ha.run hb.run hm) (wOp_ok hd)⟩
def wTest (t : DE) : DT := fun Ed sl st Q => t Ed sl st fun s st => match s with
  | .d (.bool b) => Q b st
  | _ => False
theorem dt_cmp {op : CmpOp} {r : R2} {f : Sl → Sl → Sto → DK → Prop} (hd : D2 X.K r f) (ho : OpR X (compareOp op) r) (ha : DEx X E a ta) (hb : DEx X E b tb) (hm : behindInMarks op b = false) : DTs X E (.Compare a [op] [b] pos) (wTest (wOp f ta tb)) :=
  ⟨ptI (pt_cmpR ho ha.run hb.run hm) fun σ H Q h => wOp_ok hd σ H _ (by
    obtain ⟨Z, sl, Qd, Ed, e, ok, so, w, k, kx⟩ := h
    exact ⟨Z, sl, _, Ed, e, ok, so, w, (fun Z1 v s l1 ok1 r1 w1 => by
      simp only at w1
      split at w1
      · cases r1
        exact ⟨_, rfl, k Z1 _ l1 ok1 w1⟩
      · exact w1.elim), kx⟩)⟩
end
end Pz
set_option maxRecDepth 100000
namespace Pz
open PySem PySem.Spec PyProof.Rows L2 TL
variable [TabC]
section
variable {K : Frag} {Z : Zs}
theorem KOk.now {Qd : DK} {Q : VK} (k : KOk K Z Qd Q) (ok : Ok K Z) {v : V} {x : PyData} (r : Z.Im K v x) (q : Qd (.d x) Z.st) : Q v Z.H := k Z v (.d x) (.refl ok) ok r q
theorem KOk.same {Qd : DK} {Q : VK} (k : KOk K Z Qd Q) (ok : Ok K Z) {v : V} {s : Sl} (r : Rp K Z v s) (q : Qd s Z.st) : Q v Z.H := k Z v s (.refl ok) ok r q
theorem KOk.newL {Qd : DK} {Q : VK} (k : KOk K Z Qd Q) (ok : Ok K Z) {xs : List V} {ds : List PyData} (r : Z.ImAll K xs ds) (q : Qd (.d (.list ds)) Z.st) : ∀ p, Z.H p = none → Q (.ref p) (upd Z.H p (.lst xs)) :=
  fun p n => k (Z.new p (.lst xs)) (.ref p) _ (ok.leNew n) (ok.new n) (ok.rpL n r) q
theorem KOk.newT {Qd : DK} {Q : VK} (k : KOk K Z Qd Q) (ok : Ok K Z) {xs : List V} {ds : List PyData} (r : Z.ImAll K xs ds) (q : Qd (.d (.tuple ds)) Z.st) : ∀ p, Z.H p = none → Q (.ref p) (upd Z.H p (.tup xs)) :=
  fun p n => k (Z.new p (.tup xs)) (.ref p) _ (ok.leNew n) (ok.new n) (ok.rpT n r) q
theorem ImAll.nilIff {W : Addr → Prop} {H : Hp} {vs : List V} {ds : List PyData} (h : ImAll K W H vs ds) : vs = [] ↔ ds = [] := by
  cases h <;> simp
end
def oAdd (x y : Sl) (st : Sto) (Q : DK) : Prop := match vw st x, vw st y with
  | some (.int i), some (.int j) => Q (.d (.int (i + j))) st
  | some (.str a), some (.str b) => a.length + b.length ≤ sizeLine ∧ Q (.d (.str (a ++ b))) st
  | some (.list a), some (.list b) => a.length + b.length ≤ sizeLine ∧ Q (.d (.list (a ++ b))) st
  | some (.tuple a), some (.tuple b) => a.length + b.length ≤ sizeLine ∧ Q (.d (.tuple (a ++ b))) st
  | _, _ => False
def rAdd (K : Frag) : R2 := fun x y H Q => rI0 (fun i j => .int (i + j)) x y H Q ∨ (∃ i j, x = .str i ∧ y = .str j ∧ i.length + j.length ≤ sizeLine ∧ Q (.str (i ++ j)) H) ∨ rCat x y H Q ∨ rCatA K x y H Q
theorem op_addR {X : Cx} : OpR X (binaryOp .Add) (rAdd X.K) := op_add.or (op_add_str.or (op_cat.or op_catA))
theorem d2_add {K : Frag} : D2 K (rAdd K) oAdd := by
  intro Z v u s t Qd Q ok r1 r2 w k
  unfold oAdd at w
  split at w
  · rename_i i j e1 e2
    exact .inl ⟨i, j, r1.int e1, r2.int e2, k.now ok (.int _) w⟩
  · rename_i a b e1 e2
    exact .inr (.inl ⟨a, b, r1.str e1, r2.str e2, w.1, k.now ok (.str _) w.2⟩)
  · rename_i a b e1 e2
    obtain ⟨p, xs, rfl, h1, q1⟩ := r1.list ok e1
    obtain ⟨p2, ys, rfl, h2, q2⟩ := r2.list ok e2
    exact .inr (.inr (.inl ⟨p, p2, xs, ys, rfl, rfl, h1, h2, by rw [q1.length, q2.length]; exact w.1, k.newL ok (q1.append q2) w.2⟩))
  · rename_i a b e1 e2
    obtain ⟨p, xs, rfl, h1, q1⟩ := r1.tuple e1
    obtain ⟨p2, ys, rfl, h2, q2⟩ := r2.tuple e2
    refine .inr (.inr (.inr ⟨p, p2, xs, ys, rfl, rfl, h1.sq, h2.sq, by rw [q1.length, q2.length]; exact w.1, fun z => ?_, fun _ z => ?_, fun _ _ => k.newT ok (q1.append q2) w.2⟩))
    · have z' := q1.nilIff.mp z
      subst z'
      exact k.now ok (.tup h2 q2) (by simpa using w.2)
    · have z' := q2.nilIff.mp z
      subst z'
      exact k.now ok (.tup h1 q1) (by simpa using w.2)
  · exact w.elim
def oSub (x y : Sl) (st : Sto) (Q : DK) : Prop := match vw st x, vw st y with
  | some (.int i), some (.int j) => Q (.d (.int (i - j))) st
  | _, _ => False
theorem d2_sub {K : Frag} : D2 K (rI0 fun i j => .int (i - j)) oSub := by
  intro Z v u s t Qd Q ok r1 r2 w k
  unfold oSub at w
  split at w
  · rename_i i j e1 e2
    exact ⟨i, j, r1.int e1, r2.int e2, k.now ok (.int _) w⟩
  · exact w.elim
theorem tl_mul (x : Str) (n : Int) : tl (Txt.mul x n) = (List.replicate n.toNat (tl x)).flatten := by
  unfold Txt.mul
  by_cases h1 : n < 1
  · rw [if_pos h1]
    have : n.toNat = 0 := by omega
    rw [this]
    rfl
  · rw [if_neg h1]
    by_cases h2 : (n == 1 || x.length == 0) = true
    · rw [if_pos h2]
      simp only [Bool.or_eq_true, beq_iff_eq] at h2
      rcases h2 with h2 | h2
      · subst h2
        simp
      · have e : tl x = [] := (len0_tl x).mp h2
        rw [e]
        simp
    · rw [if_neg h2]
      have f : ∀ (k : Nat) (acc : Array Nat), (List.foldl (fun x1 x2 => x1 ++ x2) acc (List.replicate k x.cps)).toList = acc.toList ++ (List.replicate k x.cps.toList).flatten := by
        intro k
        induction k with
        | zero => intro acc; simp
        | succ k ih =>
          intro acc
          rw [List.replicate_succ, List.foldl_cons, ih, List.replicate_succ, List.flatten_cons, Array.toList_append, List.append_assoc]
      have := f n.toNat #[]
      simpa [tl] using this
theorem op_mul_str {X : Cx} : OpR X (binaryOp .Mult) (fun x y H Q => ∃ a n, x = .str a ∧ y = .int n ∧ -(2 ^ 63) ≤ n ∧ n < 2 ^ 63 ∧ a.length * n.toNat ≤ sizeLine ∧ Q (.str (Txt.mul a n)) H) := by
  intro pins s σ H x y v u Q I rx ry h
  obtain ⟨a, n, rfl, rfl, h1, h2, h3, q⟩ := h
  obtain ⟨t, rfl⟩ := rx
  obtain ⟨t', rfl⟩ := ry
  refine SB.mul ⟨?_, fun n1 _ => ?_, fun n1 _ => ?_⟩ fun t' k => ⟨.str _, H, I.tok _, ⟨_, rfl⟩, q⟩
  · have e1 : decide (n < -(2 ^ 63 : Int)) = false := decide_eq_false (by omega)
    have e2 : decide (n ≥ 2 ^ 63) = false := decide_eq_false (by omega)
    rw [e1, e2]; rfl
  · intro z
    have hs : sizeLine = 16777216 := sizeLine_eq
    have hn : (n.toNat : Int) = n := Int.toNat_of_nonneg (by omega)
    have h4 : (a.length : Int) * n ≤ 16777216 := by
      rw [← hn]
      have : ((a.length * n.toNat : Nat) : Int) ≤ 16777216 := by omega
      simpa using this
    have h5 : ((2 ^ 63 - 1) / n + 1) * n ≤ (a.length : Int) * n := Int.mul_le_mul_of_nonneg_right (by omega) (by omega)
    have h6 : n * ((2 ^ 63 - 1) / n) + (2 ^ 63 - 1) % n = (2 ^ 63 - 1 : Int) := Int.mul_ediv_add_emod _ _
    have h7 : (2 ^ 63 - 1 : Int) % n < n := Int.emod_lt_of_pos _ (by omega)
    rw [Int.add_mul, Int.one_mul, Int.mul_comm] at h5
    generalize n * ((2 ^ 63 - 1) / n) = q at h5 h6
    generalize (a.length : Int) * n = m at h4 h5
    generalize (2 ^ 63 - 1 : Int) % n = r at h6 h7
    omega
  · unfold Builtin.Str.tooLong
    exact decide_eq_false (by omega)
def SmallI (i : Int) : Prop := -(2 ^ 64) < i ∧ i < 2 ^ 64
instance {i : Int} : Decidable (SmallI i) := inferInstanceAs (Decidable (_ ∧ _))
def oMul (x y : Sl) (st : Sto) (Q : DK) : Prop := match vw st x, vw st y with
  | some (.int i), some (.int j) => (SmallI i ∨ SmallI j) ∧ Q (.d (.int (i * j))) st
  | some (.list a), some (.int j) => -(2 ^ 63) ≤ j ∧ j < 2 ^ 63 ∧ a.length * j.toNat ≤ sizeLine ∧ Q (.d (.list (List.replicate j.toNat a).flatten)) st
  | some (.str a), some (.int j) => -(2 ^ 63) ≤ j ∧ j < 2 ^ 63 ∧ a.length * j.toNat ≤ sizeLine ∧ Q (.d (.str (Txt.mul a j))) st
  | _, _ => False
def rMul : R2 := fun x y H Q => rI CMul (fun i j => .int (i * j)) x y H Q ∨ rRep x y H Q ∨ ∃ a n, x = .str a ∧ y = .int n ∧ -(2 ^ 63) ≤ n ∧ n < 2 ^ 63 ∧ a.length * n.toNat ≤ sizeLine ∧ Q (.str (Txt.mul a n)) H
theorem op_mulR {X : Cx} : OpR X (binaryOp .Mult) rMul := op_mul.or (op_rep.or op_mul_str)
theorem ImAll.rep {K : Frag} {W : Addr → Prop} {H : Hp} {vs : List V} {ds : List PyData} (h : ImAll K W H vs ds) : ∀ n : Nat, ImAll K W H (List.replicate n vs).flatten (List.replicate n ds).flatten
  | 0 => .nil
  | n + 1 => by
    rw [List.replicate_succ, List.replicate_succ, List.flatten_cons, List.flatten_cons]
    exact h.append (ImAll.rep h n)
theorem d2_mul {K : Frag} : D2 K rMul oMul := by
  intro Z v u s t Qd Q ok r1 r2 w k
  unfold oMul at w
  split at w
  · rename_i i j e1 e2
    exact .inl ⟨i, j, r1.int e1, r2.int e2, w.1, k.now ok (.int _) w.2⟩
  · rename_i a j e1 e2
    obtain ⟨p, xs, rfl, h1, q1⟩ := r1.list ok e1
    obtain ⟨w1, w2, w3, w4⟩ := w
    exact .inr (.inl ⟨p, j, xs, rfl, r2.int e2, h1, w1, w2, by rw [q1.length]; exact w3, k.newL ok (q1.rep _) w4⟩)
  · rename_i a j e1 e2
    obtain ⟨w1, w2, w3, w4⟩ := w
    exact .inr (.inr ⟨a, j, r1.str e1, r2.int e2, w1, w2, w3, k.now ok (.str _) w4⟩)
  · exact w.elim
def oII (C : Int → Int → Prop) (g : Int → Int → PyData) (x y : Sl) (st : Sto) (Q : DK) : Prop := match vw st x, vw st y with
  | some (.int i), some (.int j) => C i j ∧ Q (.d (g i j)) st
  | _, _ => False
theorem d2_ii {K : Frag} {C : Int → Int → Prop} {g : Int → Int → Int} : D2 K (rI C fun i j => .int (g i j)) (oII C fun i j => .int (g i j)) := by
  intro Z v u s t Qd Q ok r1 r2 w k
  unfold oII at w
  split at w
  · rename_i i j e1 e2
    exact ⟨i, j, r1.int e1, r2.int e2, w.1, k.now ok (.int _) w.2⟩
  · exact w.elim
def oFdiv := oII CDivW fun i j => .int (i / j)
def oMod := oII (fun _ j => 0 < j) fun i j => .int (i % j)
def oPow := oII CPow fun i j => .int (i ^ j.toNat)
def oShl := oII CPow fun i j => .int (i * 2 ^ j.toNat)
def oShr := oII (fun _ j => 0 ≤ j) fun i j => .int (i / 2 ^ j.toNat)
theorem d2_fdiv {K : Frag} : D2 K (rI CDivW fun i j => .int (i / j)) oFdiv := d2_ii
theorem d2_mod {K : Frag} : D2 K (rI (fun _ j => 0 < j) fun i j => .int (i % j)) oMod := d2_ii
theorem d2_pow {K : Frag} : D2 K (rI CPow fun i j => .int (i ^ j.toNat)) oPow := d2_ii
def oBool (g : Int → Int → Bool) (x y : Sl) (st : Sto) (Q : DK) : Prop := match vw st x, vw st y with
  | some (.int i), some (.int j) => Q (.d (.bool (g i j))) st
  | _, _ => False
theorem d2_bool {K : Frag} {g : Int → Int → Bool} : D2 K (rI0 fun i j => .bl (g i j)) (oBool g) := by
  intro Z v u s t Qd Q ok r1 r2 w k
  unfold oBool at w
  split at w
  · rename_i i j e1 e2
    exact ⟨i, j, r1.int e1, r2.int e2, k.now ok (.bl _) w⟩
  · exact w.elim
def flatEq (d : PyData) : Prop := SeqAt.shaped d = true
theorem shaped_dict {d : PyData} (h : SeqAt.shaped d = true) : d.hasDict = false := PyData.hasDict_of_canLay d (SeqAt.canLay_of_shaped h)
def oEq (x y : Sl) (st : Sto) (Q : DK) : Prop := match vw st x, vw st y with
  | some a, some b => SeqAt.shaped a = true ∧ SeqAt.shaped b = true ∧ Q (.d (.bool (PyData.eqv a b))) st
  | _, _ => False
def oNe (x y : Sl) (st : Sto) (Q : DK) : Prop := match vw st x, vw st y with
  | some a, some b => SeqAt.shaped a = true ∧ SeqAt.shaped b = true ∧ Q (.d (.bool (!PyData.eqv a b))) st
  | _, _ => False
theorem d2_eq {K : Frag} : D2 K (rEqD K) oEq := by
  intro Z v u s t Qd Q ok r1 r2 w k
  unfold oEq at w
  split at w
  · rename_i a b e1 e2
    exact ⟨a, b, r1.dp ok e1 (shaped_dict w.1), r2.dp ok e2 (shaped_dict w.2.1), w.1, w.2.1, k.now ok (.bl _) w.2.2⟩
  · exact w.elim
theorem d2_ne {K : Frag} : D2 K (rNeD K) oNe := by
  intro Z v u s t Qd Q ok r1 r2 w k
  unfold oNe at w
  split at w
  · rename_i a b e1 e2
    exact ⟨a, b, r1.dp ok e1 (shaped_dict w.1), r2.dp ok e2 (shaped_dict w.2.1), w.1, w.2.1, k.now ok (.bl _) w.2.2⟩
  · exact w.elim
def noneS (st : Sto) : Sl → Option Bool
  | .d .none => some true
  | .d _ => some false
  | .o _ => some false
  | .r u => some (decide (u = .non))
  | .l _ _ _ => none
  | .f _ => some false
theorem noneS_ok {K : Frag} {Z : Zs} {v : V} {s : Sl} {b : Bool} (r : Rp K Z v s) (e : noneS Z.st s = some b) : decide (v = .non) = b := by
  cases s with
  | d x =>
    have r' : Z.Im K v x := r
    cases r' <;> simp_all [noneS]
  | o h => obtain ⟨a, c, rfl, _⟩ := r; simp_all [noneS]
  | r u => cases r; simpa [noneS] using e
  | l _ _ _ => simp [noneS] at e
  | f ns => obtain ⟨a, rfl, _⟩ := r; simp_all [noneS]
def oIsN (x y : Sl) (st : Sto) (Q : DK) : Prop := match noneS st x, y with
  | some b, .d .none => Q (.d (.bool b)) st
  | _, _ => False
def oNotN (x y : Sl) (st : Sto) (Q : DK) : Prop := match noneS st x, y with
  | some b, .d .none => Q (.d (.bool (!b))) st
  | _, _ => False
theorem d2_isN {K : Frag} : D2 K (fun x y H Q => y = .non ∧ Q (.bl (decide (x = .non))) H) oIsN := by
  intro Z v u s t Qd Q ok r1 r2 w k
  unfold oIsN at w
  split at w
  · rename_i b e1
    refine ⟨r2.non rfl, ?_⟩
    rw [noneS_ok r1 e1]
    exact k.now ok (.bl _) w
  · exact w.elim
theorem d2_notN {K : Frag} : D2 K (fun x y H Q => y = .non ∧ Q (.bl (!decide (x = .non))) H) oNotN := by
  intro Z v u s t Qd Q ok r1 r2 w k
  unfold oNotN at w
  split at w
  · rename_i b e1
    refine ⟨r2.non rfl, ?_⟩
    rw [noneS_ok r1 e1]
    exact k.now ok (.bl _) w
  · exact w.elim
end Pz
set_option maxRecDepth 100000
namespace Pz
open PySem PySem.Spec PyProof.Rows L2 TL
variable [TabC]
structure FnG (P : Program) (w : World) (K : Frag) (mg : Str → Option Value) (base : Heap) (CX : CXT) (k : Nat) (f : Addr) (fd : FuncData) (ps : List Str) (sp : Sp) : Prop where
  len : ∀ vs H Q E, sp vs H Q E → vs.length = ps.length
  go : ∀ A : Around, A.guards = some [] → Room k A → ∀ outer s H, Env0 P w K mg base A outer s H → ∀ args us, BindsTo s fd args (ps.zip us) → ∀ vs Q E, Vals vs us → sp vs H Q E → codeAny (model P w) A (.call (.ref f) args) (CR CX outer P w H s Q E) s
section
variable {P : Program} {w : World} {K : Frag} {mg : Str → Option Value} {base : Heap} {CX : CXT} {j k : Nat} {f : Addr} {fd : FuncData} {ps N : List Str} {sp sp' : Sp}
theorem FnG.mono (F : FnG P w K mg base CX j f fd ps sp) (h : j ≤ k) : FnG P w K mg base CX k f fd ps sp :=
  ⟨F.len, fun A hg hr => F.go A hg (hr.mono h)⟩
theorem FnG.imp (F : FnG P w K mg base CX k f fd ps sp) (h : ∀ vs H Q E, sp' vs H Q E → sp vs H Q E) : FnG P w K mg base CX k f fd ps sp' :=
  ⟨fun vs H Q E q => F.len vs H Q E (h _ _ _ _ q), fun A hg hr outer s H e args us b vs Q E v q => F.go A hg hr outer s H e args us b vs Q E v (h _ _ _ _ q)⟩
theorem FnG.of {x qual : Str} {st : Stmt} (F : Fun K x qual st f fd) (S : FnScope N ps (defScope st)) (len : ∀ vs H Q E, sp vs H Q E → vs.length = ps.length)
    (body : ∀ (cdv : Value) (A : Around) (outer : List Env) (s : Shared) (H : Hp) (vs : List V) (Q : VK) (E : XK), A.guards = some [] → Room k (A.deeper (envOfC qual (defScope st) s.heap.objs.size f cdv)) → sp vs H Q E →
      ∃ t, PSs (cxOf CX P w K mg base N qual (defScope st) f cdv A outer s H E) (defBody st) t ∧ t { nx := fun _ H' => Q .non H', rt := Q } (start N vs) H) :
    FnG P w K mg base CX (k + 1) f fd ps sp := by
  obtain ⟨oc, od, kV, doc, pm, an, cdv, ct, osl, rfl, lk, hcd⟩ := F.ex
  refine ⟨len, fun A hg hr outer s H e0 args us hb vs Q E rv q => ?_⟩
  have inK : K.In s.heap := e0.mod.kin.keeps fun b o e => (e0.bs b o e).1
  have par : ∀ y ∈ ps.zip us, (defScope st).names.lookup y.1 = some .local ∨ ((defScope st).names.lookup y.1 = some .cell ∧ ((cellsFrom (s.heap.objs.size + 1) (defScope st).names []).lookup y.1).isSome = true) := by
    rintro ⟨n, u⟩ hy
    rcases S.par n (List.of_mem_zip hy).1 with z | z
    · exact .inl z
    · exact .inr ⟨z, PySem.W.cellsFrom_some _ _ _ (.inl z)⟩
  apply codeAny_call_function hr.depth (inK _ _ lk) rfl S.co S.gen rfl (PySem.W.codeRec_of inK hcd) (hb _ _ _ _ _)
  apply wpAny_newFunctionEnv_cells S.kind par
  rintro env rfl s1 x
  refine ⟨(e0.mod.nolimit.keeps fun b o e => (e0.bs b o e).1).keeps x.toInCall.keep, codeAny_func ?_⟩
  obtain ⟨t, ht, hq⟩ := body cdv A outer s H vs Q E hg (hr.deeper _) q
  have I := inv_start (CX := CX) (E := E) S hr.hd e0 (len _ _ _ _ q) rv x
  refine wpAny_mono (ht.run [] s1 (start N vs) H _ I hq) ?_ fun e s' z => z
  rintro (_ | _ | _ | u) s' z
  · obtain ⟨σ', H', J, z⟩ := z
    exact ⟨.non, H', J.os, J.bare, J.base, J.hok, rfl, z⟩
  · obtain ⟨_, _, _, z⟩ := z
    exact z.elim
  · obtain ⟨_, _, _, z⟩ := z
    exact z.elim
  · obtain ⟨v, σ', H', J, r, z⟩ := z
    exact ⟨v, H', J.os, J.bare, J.base, J.hok, r, z⟩
end
abbrev DXF := Str → List (Str × PyData) → Sto → Prop
abbrev DSp := List Sl → Sto → DK → DXF → Prop
def KXF (K : Frag) (Z : Zs) (Ed : DXF) (E : XK) : Prop := ∀ (Z' : Zs) (c : Value) (x : Str) (d : Option Addr) (fs : List (Str × PyData)), Le Z Z' → Ok K Z' → XdOk K Z' fs d → ClsV K x c → Ed x fs Z'.st → E c d Z'.H
def toSp (K : Frag) (n : Nat) (dsp : DSp) : Sp := fun vs H Q E => ∃ (Z : Zs) (ss : List Sl) (Qd : DK) (Ed : DXF), Z.H = H ∧ Ok K Z ∧ RpAll K Z vs ss ∧ ss.length = n ∧ dsp ss Z.st Qd Ed ∧ KOk K Z Qd Q ∧ KXF K Z Ed E
abbrev FnD (P : Program) (w : World) (K : Frag) (mg : Str → Option Value) (base : Heap) (CX : CXT) (k : Nat) (f : Addr) (fd : FuncData) (ps : List Str) (dsp : DSp) : Prop := FnG P w K mg base CX k f fd ps (toSp K ps.length dsp)
def SlIn (n : Nat) : Sl → Prop
  | .o h => h < n
  | _ => True
def Cl (n : Nat) : Ct → Prop
  | .ins _ fs => ∀ p ∈ fs, SlIn n p.2
  | .lsS xs => ∀ x ∈ xs, SlIn n x
  | .dN kvs => ∀ p ∈ kvs, SlIn n p.2
  | _ => True
def Ret (n : Nat) (s : Sl) (st : Sto) (Q : DK) : Prop := (∀ c ∈ st.take n, Cl n c) ∧ match s with
  | .o h => if h < n then Q (.o h) (st.take n) else match st[h]? with
    | some c => c.live ∧ Cl n c ∧ Q (.o n) (st.take n ++ [c])
    | none => False
  | s => Q s (st.take n)
section
variable {K : Frag} {Z Z' : Zs}
theorem Stay.less {W W' : Addr → Prop} {H : Hp} (h : ∀ a, W' a → W a) : Stay W W' H H := ⟨fun _ _ e _ _ => e, fun _ _ _ n _ w => n (h _ w)⟩
theorem rp_less {n : Nat} (hF : Z'.F = Z.F) (hH : Z'.H = Z.H) (hW : ∀ a, Z'.W a → Z.W a) (hφ : ∀ i, i < n → Z'.φ[i]? = Z.φ[i]?) (hst : ∀ i, i < n → Z'.st[i]? = Z.st[i]?) {v : V} {s : Sl} (hs : SlIn n s) (r : Rp K Z v s) : Rp K Z' v s := by
  cases s with
  | d x =>
    have q := Im.tr (Stay.less hW) (show Pz.Im K Z.W Z.H v x from r)
    rw [← hH] at q
    exact q
  | o h =>
    obtain ⟨a, c, e, e1, e2, e3⟩ := r
    exact ⟨a, c, e, by rw [hφ h hs]; exact e1, by rw [hst h hs]; exact e2, e3⟩
  | r u => exact r
  | l _ _ _ => exact ⟨r.1, by rw [hH]; exact r.2.trans (Stay.less hW)⟩
  | f ns =>
    obtain ⟨a, e, q⟩ := r
    have q' := q.tr (Stay.less hW)
    rw [← hH] at q'
    exact ⟨a, e, q'⟩
theorem rpAll_less {n : Nat} (hF : Z'.F = Z.F) (hH : Z'.H = Z.H) (hW : ∀ a, Z'.W a → Z.W a) (hφ : ∀ i, i < n → Z'.φ[i]? = Z.φ[i]?) (hst : ∀ i, i < n → Z'.st[i]? = Z.st[i]?) : ∀ {vs : List V} {ss : List Sl}, (∀ s ∈ ss, SlIn n s) → RpAll K Z vs ss → RpAll K Z' vs ss
  | _, _, _, .nil => .nil
  | _, _, hs, .cons p r => .cons (rp_less hF hH hW hφ hst (hs _ (by simp)) p) (rpAll_less hF hH hW hφ hst (fun s m => hs s (by simp [m])) r)
theorem ct_less {n : Nat} (hF : Z'.F = Z.F) (hH : Z'.H = Z.H) (hW : ∀ a, Z'.W a → Z.W a) (hφ : ∀ i, i < n → Z'.φ[i]? = Z.φ[i]?) (hst : ∀ i, i < n → Z'.st[i]? = Z.st[i]?) {a : Addr} : ∀ {c : Ct}, Cl n c → CtOk K Z a c → CtOk K Z' a c
  | .lst ds, _, h => by
    obtain ⟨vs, e, q⟩ := h
    have q' := ImAll.tr (Stay.less hW) (show Pz.ImAll K Z.W Z.H vs ds from q)
    rw [← hH] at e q'
    exact ⟨vs, e, q'⟩
  | .lsS xs, hc, h => by
    obtain ⟨us, e, q⟩ := h
    rw [← hH] at e
    exact ⟨us, e, rpAll_less hF hH hW hφ hst hc q⟩
  | .dK kvs, _, h => by
    obtain ⟨vs, e, e2, q⟩ := h
    have q' := ImAll.tr (Stay.less hW) (show Pz.ImAll K Z.W Z.H _ _ from q)
    rw [← hH] at e q'
    exact ⟨vs, e, e2, q'⟩
  | .dT kvs, _, h => by
    obtain ⟨vs, e, e2, q⟩ := h
    have q' := ImAll.tr (Stay.less hW) (show Pz.ImAll K Z.W Z.H _ _ from q)
    rw [← hH] at e q'
    exact ⟨vs, e, e2, q'⟩
  | .dN fs, hc, h => by
    obtain ⟨us, e, e2, q⟩ := h
    rw [← hH] at e
    refine ⟨us, e, e2, rpAll_less hF hH hW hφ hst (fun s m => ?_) q⟩
    obtain ⟨p, hp, rfl⟩ := List.mem_map.mp m
    exact hc p hp
  | .ins C fs, hc, h => by
    obtain ⟨dx, us, e, e2, q⟩ := h
    rw [← hH] at e
    refine ⟨dx, us, e, e2, rpAll_less hF hH hW hφ hst (fun s m => ?_) q⟩
    obtain ⟨p, hp, rfl⟩ := List.mem_map.mp m
    exact hc p hp
  | .exc c fs, _, h => by
    obtain ⟨cv, d, hc, e, q⟩ := h
    have s : Stay Z.W Z'.W Z.H Z'.H := by rw [hH]; exact Stay.less hW
    rw [← hH] at e
    exact ⟨cv, d, hc, e, q.tr s⟩
  | .dead, _, h => by
    show Z'.H a ≠ none
    rw [hH]
    exact h
theorem take_get {α : Type} {l : List α} {n i : Nat} (h : i < n) : (l.take n)[i]? = l[i]? := by
  rw [List.getElem?_take, if_pos h]
theorem ret_ok {Z0 : Zs} {n : Nat} {v : V} {s : Sl} {Qd : DK} {Q : VK} (hn : Z0.st.length = n) (l : Le Z0 Z) (ok : Ok K Z) (r : Rp K Z v s) (h : Ret n s Z.st Qd) (k : KOk K Z0 Qd Q) : Q v Z.H := by
  obtain ⟨hc, h⟩ := h
  obtain ⟨ψ, eφ, hψ⟩ := l.pre
  have n0 : Z0.φ.length = n := by rw [← l.len]; exact hn
  have nle : n ≤ Z.φ.length := by rw [eφ, List.length_append]; omega
  have nle2 : n ≤ Z.st.length := by rw [← ok.len]; exact nle
  have tφ : Z.φ.take n = Z0.φ := by rw [eφ, ← n0, List.take_left]
  have wless : ∀ {φ' : List Addr} {st' : Sto}, (∀ i c, φ'[i]? = some c → ∀ ct : Ct, st'[i]? = some ct → ct.live → Z.O c) → ∀ a, (Zs.mk φ' st' Z.H Z.F).W a → Z.W a := fun {φ' st'} hh a w => by
    rcases w with ⟨i, c, e1, e2, e3⟩ | w
    · exact .inl (hh i a e1 c e2 e3)
    · exact .inr w
  have plain : ∀ s', SlIn n s' → Rp K Z v s' → Qd s' (Z.st.take n) → Q v Z.H := fun s' hs r' q => by
    have hW : ∀ a, (Zs.mk (Z.φ.take n) (Z.st.take n) Z.H Z.F).W a → Z.W a := wless fun i a e1 c e2 e3 => by
      have hi : i < n := by
        have := (List.getElem?_eq_some_iff.mp e1).1
        rw [List.length_take] at this
        omega
      rw [take_get hi] at e1 e2
      exact ⟨i, c, e1, e2, e3⟩
    refine k (Zs.mk (Z.φ.take n) (Z.st.take n) Z.H Z.F) v s' ⟨⟨[], by rw [List.append_nil]; exact tφ, fun _ h => by cases h⟩, l.len, fun i c e => ?_, l.frm, l.fgn, l.dom⟩ ⟨?_, ?_, fun i a c e1 e2 => ?_, ok.fo, fun a m => ok.fd a (List.mem_of_mem_take m), ok.tb.less hW⟩ ?_ q
    · obtain ⟨c', q1, q2⟩ := l.liv i c e
      have hi : i < n := by rw [← hn]; exact (List.getElem?_eq_some_iff.mp e).1
      exact ⟨c', by show (Z.st.take n)[i]? = _; rw [take_get hi]; exact q1, q2⟩
    · show (Z.φ.take n).length = (Z.st.take n).length
      rw [List.length_take, List.length_take, ok.len]
    · exact ok.nd.sublist (List.take_sublist _ _)
    · have hi : i < n := by
        have := (List.getElem?_eq_some_iff.mp (show (Z.φ.take n)[i]? = some a from e1)).1
        rw [List.length_take] at this
        omega
      have e2' : (Z.st.take n)[i]? = some c := e2
      have m : c ∈ Z.st.take n := List.mem_of_getElem? e2'
      have e1' : (Z.φ.take n)[i]? = some a := e1
      rw [take_get hi] at e1' e2'
      exact ct_less (Z := Z) (Z' := ⟨Z.φ.take n, Z.st.take n, Z.H, Z.F⟩) (n := n) rfl rfl hW (fun j hj => take_get (l := Z.φ) hj) (fun j hj => take_get (l := Z.st) hj) (hc c m) (ok.ct i a c e1' e2')
    · exact rp_less (Z := Z) (Z' := ⟨Z.φ.take n, Z.st.take n, Z.H, Z.F⟩) (n := n) rfl rfl hW (fun j hj => take_get (l := Z.φ) hj) (fun j hj => take_get (l := Z.st) hj) hs r'
  cases s with
  | d x => exact plain (.d x) trivial r h
  | r u => exact plain (.r u) trivial r h
  | l a b c => exact plain (.l a b c) trivial r h
  | f ns => exact plain (.f ns) trivial r h
  | o hh =>
    simp only at h
    split at h
    · rename_i hlt
      exact plain (.o hh) hlt r h
    · rename_i hlt
      split at h
      · rename_i c ec
        obtain ⟨lv, hcl, q⟩ := h
        obtain ⟨a, c', ev, e1, e2, e3⟩ := id r
        rw [ec] at e2
        cases e2
        have ha : a ∈ ψ := by
          rw [eφ, List.getElem?_append_right (by omega)] at e1
          exact List.mem_of_getElem? e1
        have ht : (Z.st.take n).length = n := by rw [List.length_take]; omega
        have htφ : (Z.φ.take n).length = n := by rw [List.length_take]; omega
        have gφ : ∀ i b, (Z.φ.take n ++ [a])[i]? = some b → (i < n ∧ Z.φ[i]? = some b) ∨ (i = n ∧ b = a) := fun i b e => by
          by_cases hi : i < n
          · rw [List.getElem?_append_left (by omega), take_get hi] at e
            exact .inl ⟨hi, e⟩
          · rw [List.getElem?_append_right (by omega), htφ] at e
            have : i - n = 0 := by
              have := (List.getElem?_eq_some_iff.mp e).1
              simp at this
              omega
            rw [this] at e
            simp at e
            exact .inr ⟨by omega, e.symm⟩
        have gs1 : ∀ i, i < n → (Z.st.take n ++ [c])[i]? = Z.st[i]? := fun i hi => by rw [List.getElem?_append_left (by omega), take_get hi]
        have gs2 : (Z.st.take n ++ [c])[n]? = some c := by rw [List.getElem?_append_right (by omega), ht]; simp
        have hW : ∀ b, (Zs.mk (Z.φ.take n ++ [a]) (Z.st.take n ++ [c]) Z.H Z.F).W b → Z.W b := wless fun i b q1 c2 q2 q3 => by
          rcases gφ i b q1 with ⟨hi, q1⟩ | ⟨rfl, rfl⟩
          · rw [gs1 i hi] at q2
            exact ⟨i, c2, q1, q2, q3⟩
          · exact ⟨hh, c, e1, ec, e3⟩
        have p1 : ∀ i, i < n → (Z.φ.take n ++ [a])[i]? = Z.φ[i]? := fun i hi => by rw [List.getElem?_append_left (by omega), take_get hi]
        refine k (Zs.mk (Z.φ.take n ++ [a]) (Z.st.take n ++ [c]) Z.H Z.F) v (.o n) ⟨⟨[a], by rw [tφ], fun b hb => ?_⟩, l.len, fun i c2 e => ?_, l.frm, l.fgn, l.dom⟩ ⟨?_, ?_, fun i b c2 q1 q2 => ?_, ok.fo, fun b m => ?_, ok.tb.less hW⟩ ?_ q
        · have : b = a := by simpa using hb
          subst this
          exact hψ b ha
        · obtain ⟨c3, q1, q2⟩ := l.liv i c2 e
          have hi : i < n := by rw [← hn]; exact (List.getElem?_eq_some_iff.mp e).1
          exact ⟨c3, (gs1 i hi).trans q1, q2⟩
        · show (Z.φ.take n ++ [a]).length = (Z.st.take n ++ [c]).length
          rw [List.length_append, List.length_append, ht, htφ]
          rfl
        · have nd := ok.nd
          rw [eφ] at nd
          show (Z.φ.take n ++ [a]).Nodup
          rw [tφ]
          exact nd.sublist (List.Sublist.append (List.Sublist.refl _) (List.singleton_sublist.mpr ha))
        · have q1' : (Z.φ.take n ++ [a])[i]? = some b := q1
          have q2' : (Z.st.take n ++ [c])[i]? = some c2 := q2
          rcases gφ i b q1' with ⟨hi, q1'⟩ | ⟨rfl, rfl⟩
          · have m : c2 ∈ Z.st.take n := by
              rw [List.getElem?_append_left (by omega)] at q2'
              exact List.mem_of_getElem? q2'
            rw [gs1 i hi] at q2'
            exact ct_less (Z := Z) (Z' := ⟨Z.φ.take n ++ [a], Z.st.take n ++ [c], Z.H, Z.F⟩) (n := n) rfl rfl hW p1 gs1 (hc c2 m) (ok.ct i b c2 q1' q2')
          · rw [gs2] at q2'
            cases q2'
            exact ct_less (Z := Z) (Z' := ⟨Z.φ.take i ++ [b], Z.st.take i ++ [c], Z.H, Z.F⟩) (n := i) rfl rfl hW p1 gs1 hcl (ok.ct hh b c e1 ec)
        · rcases List.mem_append.mp m with m | m
          · exact ok.fd b (List.mem_of_mem_take m)
          · have : b = a := by simpa using m
            subst this
            exact ok.fd b (List.mem_of_getElem? e1)
        · exact ⟨a, c, ev, by show (Z.φ.take n ++ [a])[n]? = _; rw [List.getElem?_append_right (by omega), htφ]; simp, gs2, e3⟩
      · exact h.elim
end
theorem RpAll.get {K : Frag} {Z : Zs} : ∀ {vs : List V} {ss : List Sl} {i : Nat} {s : Sl}, RpAll K Z vs ss → ss[i]? = some s → ∃ v, vs[i]? = some v ∧ Rp K Z v s
  | _, _, 0, _, .cons q _, e => by simp at e; subst e; exact ⟨_, rfl, q⟩
  | _, _, i + 1, s, .cons _ r, e => by simpa using RpAll.get (i := i) (s := s) r (by simpa using e)
def startS (N : List Str) (ss : List Sl) : Sls := ss.map some ++ List.replicate (N.length - ss.length) none
theorem startS_ok {K : Frag} {Z : Zs} {N : List Str} {vs : List V} {ss : List Sl} (r : RpAll K Z vs ss) : SlOk K Z (L2.start N vs) (startS N ss) := by
  have hl := r.length
  refine ⟨?_, fun i s e => ?_⟩
  · unfold L2.start startS
    simp [hl]
  · unfold startS at e
    have hi : i < ss.length := by
      rcases Nat.lt_or_ge i ss.length with z | z
      · exact z
      · rw [List.getElem?_append_right (by simpa using z), List.getElem?_replicate] at e
        split at e <;> cases e
    rw [List.getElem?_append_left (by simpa using hi), List.getElem?_map] at e
    cases q : ss[i]? with
    | none => rw [q] at e; cases e
    | some t =>
      rw [q] at e
      cases e
      obtain ⟨v, hv, rv⟩ := r.get q
      refine ⟨v, ?_, rv⟩
      unfold L2.start
      rw [List.getElem?_append_left (by rw [List.length_map, hl]; exact hi), List.getElem?_map, hv]
      rfl
theorem EndsOk.ret {K : Frag} {Z0 Zc : Zs} {n0 : Nat} {Qd : DK} {Q : VK} (hn : Z0.st.length = n0) (k : KOk K Z0 Qd Q) :
    EndsOk K W0 Z0 Zc ⟨fun _ st => Ret n0 (.d .none) st Qd, fun s st => Ret n0 s st Qd, fun _ _ _ _ => False, fun _ _ => False, fun _ _ => False⟩ { nx := fun _ H' => Q .non H', rt := Q } where
  nx := fun Z sl σ l _ ok so h => ret_ok hn l ok (v := .non) (s := .d .none) Im.non h k
  rt := fun Z v s l ok r h => ret_ok hn l ok r h k
  ex := fun _ _ _ _ _ _ _ _ _ _ _ _ _ h => h
  bk := fun _ _ _ _ _ _ _ h => h
  ct := fun _ _ _ _ _ _ _ h => h
section
variable {P : Program} {w : World} {K : Frag} {mg : Str → Option Value} {base : Heap} {k : Nat} {f : Addr} {fd : FuncData} {ps N : List Str} {dsp : DSp} {x qual : Str} {st : Stmt}
theorem FnD.of0 (F : Fun K x qual st f fd) (S : FnScope N ps (defScope st)) (n0 : Nat) (τ : DS)
    (hb : ∀ (cdv : Value) (A : Around) (outer : List Env) (s : Shared) (H : Hp) (E : XK) (Z0 : Zs), A.guards = some [] → Room k (A.deeper (envOfC qual (defScope st) s.heap.objs.size f cdv)) → Z0.st.length = n0 →
      DSs (cxOf CX0 P w K mg base N qual (defScope st) f cdv A outer s H E).nox W0 Z0 (defBody st) τ)
    (hw : ∀ (ss : List Sl) (cs : Sto) (Qd : DK) (Ed : DXF), dsp ss cs Qd Ed → ss.length = ps.length → cs.length = n0 ∧ τ ⟨fun _ st => Ret n0 (.d .none) st Qd, fun s st => Ret n0 s st Qd, fun _ _ _ _ => False, fun _ _ => False, fun _ _ => False⟩ (startS N ss) cs) :
    FnD P w K mg base CX0 (k + 1) f fd ps dsp := by
  refine FnG.of F S (fun vs H Q E ⟨Z, ss, Qd, Ed, _, _, ra, hl, _⟩ => ra.length.trans hl) fun cdv A outer s H vs Q E hg hr ⟨Z, ss, Qd, Ed, e, ok, ra, hl, hd, kQ, kE⟩ => ?_
  obtain ⟨hn, q⟩ := hw ss Z.st Qd Ed hd hl
  refine ⟨_, (hb cdv A outer s H E Z hg hr hn).run.nox, ?_⟩
  exact ⟨Z, startS N ss, _, e, .refl ok, ok, startS_ok ra, q, .ret hn kQ⟩
end
def hsOf : List Sl → List Nat
  | [] => []
  | .o h :: r => h :: (hsOf r).filter fun j => j != h
  | .d _ :: r => hsOf r
  | .r _ :: r => hsOf r
  | .l _ _ _ :: r => hsOf r
  | .f _ :: r => hsOf r
def locS (hs : List Nat) : Sl → Sl
  | .o h => .o (hs.idxOf h)
  | s => s
def gloS (hs : List Nat) (n : Nat) : Sl → Sl
  | .o j => .o (if j < hs.length then hs.getD j 0 else n + (j - hs.length))
  | s => s
def getAll (st : Sto) : List Nat → Option (List Ct)
  | [] => some []
  | h :: hs => match st[h]?, getAll st hs with
    | some c, some cs => some (c :: cs)
    | _, _ => none
def putAll (st : Sto) : List Nat → List Ct → Sto
  | h :: hs, c :: cs => putAll (st.set h c) hs cs
  | [], cs => st ++ cs
  | _, [] => st
theorem getAll_get {st : Sto} : ∀ {hs : List Nat} {cs : List Ct}, getAll st hs = some cs → cs.length = hs.length ∧ ∀ (i h : Nat), hs[i]? = some h → ∃ c, st[h]? = some c ∧ cs[i]? = some c
  | [], cs, e => by
    simp only [getAll, Option.some.injEq] at e
    subst e
    exact ⟨rfl, fun i h z => by simp at z⟩
  | h :: hs, cs, e => by
    simp only [getAll] at e
    split at e
    · rename_i c cs' e1 e2
      simp only [Option.some.injEq] at e
      subst e
      obtain ⟨l, g⟩ := getAll_get e2
      refine ⟨by simp [l], fun i h' z => ?_⟩
      cases i with
      | zero => simp at z; subst z; exact ⟨c, e1, rfl⟩
      | succ i => obtain ⟨c', q1, q2⟩ := g i h' (by simpa using z); exact ⟨c', q1, by simpa using q2⟩
    · cases e
theorem hsOf_nd : ∀ ss : List Sl, (hsOf ss).Nodup
  | [] => .nil
  | .o h :: r => by
    unfold hsOf
    refine List.nodup_cons.mpr ⟨fun m => ?_, (hsOf_nd r).sublist List.filter_sublist⟩
    have := (List.mem_filter.mp m).2
    simp at this
  | .d _ :: r => hsOf_nd r
  | .r _ :: r => hsOf_nd r
  | .l _ _ _ :: r => hsOf_nd r
  | .f _ :: r => hsOf_nd r
theorem hsOf_mem : ∀ {ss : List Sl} {h : Nat}, Sl.o h ∈ ss → h ∈ hsOf ss
  | .o h :: r, j, m => by
    unfold hsOf
    rcases List.mem_cons.mp m with e | m
    · cases e; exact List.mem_cons_self
    · by_cases z : j = h
      · subst z; exact List.mem_cons_self
      · exact List.mem_cons_of_mem _ (List.mem_filter.mpr ⟨hsOf_mem m, by simpa using z⟩)
  | .d _ :: r, j, m => by
    rcases List.mem_cons.mp m with e | m
    · cases e
    · exact hsOf_mem (ss := r) m
  | .r _ :: r, j, m => by
    rcases List.mem_cons.mp m with e | m
    · cases e
    · exact hsOf_mem (ss := r) m
  | .l _ _ _ :: r, j, m => by
    rcases List.mem_cons.mp m with e | m
    · cases e
    · exact hsOf_mem (ss := r) m
  | .f _ :: r, j, m => by
    rcases List.mem_cons.mp m with e | m
    · cases e
    · exact hsOf_mem (ss := r) m
  | [], _, m => by cases m
theorem putAll_spec : ∀ {hs : List Nat} {st : Sto} {cs : List Ct}, hs.Nodup → (∀ h ∈ hs, h < st.length) → hs.length ≤ cs.length →
    (putAll st hs cs).length = st.length + (cs.length - hs.length) ∧ (∀ (i h : Nat), hs[i]? = some h → (putAll st hs cs)[h]? = cs[i]?) ∧ (∀ h : Nat, h < st.length → h ∉ hs → (putAll st hs cs)[h]? = st[h]?) ∧ ∀ j : Nat, (putAll st hs cs)[st.length + j]? = cs[hs.length + j]?
  | [], st, cs, _, _, _ => by
    refine ⟨by simp [putAll], fun i h e => by simp at e, fun h hh _ => ?_, fun j => ?_⟩
    · simp only [putAll]; rw [List.getElem?_append_left hh]
    · simp only [putAll, List.length_nil, Nat.zero_add]; rw [List.getElem?_append_right (by omega), Nat.add_sub_cancel_left]
  | h :: hs, st, [], _, _, z => by simp at z
  | h :: hs, st, c :: cs, nd, hb, hl => by
    have nd' := List.nodup_cons.mp nd
    have hb' : ∀ x ∈ hs, x < (st.set h c).length := fun x m => by rw [List.length_set]; exact hb x (List.mem_cons_of_mem _ m)
    obtain ⟨a1, a2, a3, a4⟩ := putAll_spec (hs := hs) (st := st.set h c) (cs := cs) nd'.2 hb' (by simpa using hl)
    have hh : h < st.length := hb h List.mem_cons_self
    refine ⟨by simp only [putAll]; rw [a1, List.length_set]; simp, fun i x e => ?_, fun x hx nm => ?_, fun j => ?_⟩
    · cases i with
      | zero =>
        simp at e
        subst e
        simp only [putAll]
        rw [a3 h (by rw [List.length_set]; exact hh) nd'.1, List.getElem?_set_self hh]
        rfl
      | succ i =>
        simp only [putAll]
        rw [a2 i x (by simpa using e)]
        simp
    · simp only [putAll]
      have hne : h ≠ x := fun z => nm (z ▸ List.mem_cons_self)
      rw [a3 x (by rw [List.length_set]; exact hx) (fun m => nm (List.mem_cons_of_mem _ m)), List.getElem?_set_ne hne]
    · simp only [putAll]
      have := a4 j
      rw [List.length_set] at this
      rw [this]
      simp [Nat.add_right_comm]
def locCall (dsp : DSp) (ss : List Sl) (st : Sto) (Q : DK) (Ed : DXF) : Prop := match getAll st (hsOf ss) with
  | some cs => (∀ c ∈ cs, Cl 0 c) ∧ dsp (ss.map (locS (hsOf ss))) cs (fun s cs' => (∀ c ∈ cs', Cl 0 c) ∧ Q (gloS (hsOf ss) st.length s) (putAll st (hsOf ss) cs')) fun c fs cs' => (∀ c ∈ cs', Cl 0 c) ∧ Ed c fs (putAll st (hsOf ss) cs')
  | none => False
def Zs.loc (Z : Zs) (hs : List Nat) (cs : Sto) : Zs := ⟨hs.map fun h => Z.φ.getD h 0, cs, Z.H, fun a => Z.W a ∧ a ∉ hs.map fun h => Z.φ.getD h 0⟩
def Zs.back (Z Z' : Zs) (hs : List Nat) : Zs := ⟨Z.φ ++ Z'.φ.drop hs.length, putAll Z.st hs Z'.st, Z'.H, Z.F⟩
section
variable {K : Frag} {Z : Zs} {hs : List Nat} {cs : Sto}
theorem rp_handle {v : V} {h : Nat} (r : Rp K Z v (.o h)) : h < Z.φ.length := by
  obtain ⟨a, c, _, e, _⟩ := r
  exact (List.getElem?_eq_some_iff.mp e).1
theorem loc_at (hb : ∀ h ∈ hs, h < Z.φ.length) {i h : Nat} (e : hs[i]? = some h) : (Z.loc hs cs).φ[i]? = Z.φ[h]? := by
  have hh := hb h (List.mem_of_getElem? e)
  simp only [Zs.loc, List.getElem?_map, e, Option.map_some]
  rw [List.getElem?_eq_getElem hh, List.getD_eq_getElem?_getD, List.getElem?_eq_getElem hh]
  rfl
theorem loc_inv (hb : ∀ h ∈ hs, h < Z.φ.length) {i : Nat} {a : Addr} (e : (Z.loc hs cs).φ[i]? = some a) : ∃ h, hs[i]? = some h ∧ Z.φ[h]? = some a := by
  have hi : i < hs.length := by
    have := (List.getElem?_eq_some_iff.mp e).1
    simpa [Zs.loc] using this
  have q : hs[i]? = some hs[i] := List.getElem?_eq_getElem hi
  exact ⟨hs[i], q, (loc_at hb q).symm.trans e⟩
theorem loc_in (ok : Ok K Z) (hg : getAll Z.st hs = some cs) (hb : ∀ h ∈ hs, h < Z.φ.length) {a : Addr} (m : a ∈ (Z.loc hs cs).φ) (w : Z.W a) : (Z.loc hs cs).O a := by
  obtain ⟨i, hi, e⟩ := List.getElem_of_mem m
  have e1 : (Z.loc hs cs).φ[i]? = some a := by rw [List.getElem?_eq_getElem hi, e]
  obtain ⟨h, q1, q2⟩ := loc_inv hb e1
  obtain ⟨c, p1, p2⟩ := (getAll_get hg).2 i h q1
  rcases w with ⟨j, c', r1, r2, r3⟩ | w
  · have lt1 := (List.getElem?_eq_some_iff.mp q2).1
    have lt2 := (List.getElem?_eq_some_iff.mp r1).1
    rw [List.getElem?_eq_getElem lt1] at q2
    rw [List.getElem?_eq_getElem lt2] at r1
    have z : h = j := (List.getElem_inj ok.nd).mp ((Option.some.inj q2).trans (Option.some.inj r1).symm)
    subst z
    rw [p1] at r2
    cases r2
    exact ⟨i, c, e1, p2, r3⟩
  · exact absurd w (ok.fd a (List.mem_of_getElem? q2))
theorem loc_W (ok : Ok K Z) (hg : getAll Z.st hs = some cs) (hb : ∀ h ∈ hs, h < Z.φ.length) : (Z.loc hs cs).W = Z.W := by
  funext a
  refine propext ⟨fun w => ?_, fun w => ?_⟩
  · rcases w with ⟨i, c, e1, e2, e3⟩ | w
    · obtain ⟨h, q1, q2⟩ := loc_inv hb e1
      obtain ⟨c', p1, p2⟩ := (getAll_get hg).2 i h q1
      rw [show (Z.loc hs cs).st = cs from rfl, p2] at e2
      cases e2
      exact .inl ⟨h, _, q2, p1, e3⟩
    · exact w.1
  · by_cases m : a ∈ (Z.loc hs cs).φ
    · exact .inl (loc_in ok hg hb m w)
    · exact .inr ⟨w, m⟩
theorem loc_Ok (ok : Ok K Z) (hg : getAll Z.st hs = some cs) (hb : ∀ h ∈ hs, h < Z.φ.length) (nd : hs.Nodup) (hc : ∀ c ∈ cs, Cl 0 c) : Ok K (Z.loc hs cs) where
  len := by
    show (hs.map _).length = cs.length
    rw [List.length_map, (getAll_get hg).1]
  nd := by
    refine List.pairwise_iff_getElem.mpr fun i j hi hj lt e => ?_
    have hi' : i < hs.length := by simpa [Zs.loc] using hi
    have hj' : j < hs.length := by simpa [Zs.loc] using hj
    have e1 := loc_at (cs := cs) hb (List.getElem?_eq_getElem hi')
    have e2 := loc_at (cs := cs) hb (List.getElem?_eq_getElem hj')
    rw [List.getElem?_eq_getElem hi, List.getElem?_eq_getElem (hb _ (List.getElem_mem hi'))] at e1
    rw [List.getElem?_eq_getElem hj, List.getElem?_eq_getElem (hb _ (List.getElem_mem hj'))] at e2
    have e3 : hs[i] = hs[j] := (List.getElem_inj ok.nd).mp (by rw [← Option.some.inj e1, ← Option.some.inj e2, e])
    have e4 : i = j := (List.getElem_inj nd).mp e3
    omega
  ct := fun i a c e1 e2 => by
    obtain ⟨h, q1, q2⟩ := loc_inv hb e1
    obtain ⟨c', p1, p2⟩ := (getAll_get hg).2 i h q1
    have e2' : cs[i]? = some c := e2
    rw [p2] at e2'
    obtain rfl : c' = c := Option.some.inj e2'
    have hcl := hc c' (List.mem_of_getElem? p2)
    have q := ok.ct h a c' q2 p1
    cases c' with
    | lst ds => obtain ⟨vs, z1, z2⟩ := q; exact ⟨vs, z1, by rw [Zs.ImAll, loc_W ok hg hb]; exact z2⟩
    | lsS xs =>
      obtain ⟨us, z1, z3⟩ := q
      refine ⟨us, z1, ?_⟩
      have all : ∀ {vs : List V} {ss : List Sl}, (∀ s ∈ ss, SlIn 0 s) → RpAll K Z vs ss → RpAll K (Z.loc hs cs) vs ss := by
        intro vs ss hss r
        induction r with
        | nil => exact .nil
        | @cons v vs s ss p r ih =>
          refine .cons ?_ (ih fun x m => hss x (List.mem_cons_of_mem _ m))
          have hz := hss s List.mem_cons_self
          cases s with
          | d x => show Pz.Im K (Z.loc hs cs).W _ _ _; rw [loc_W ok hg hb]; exact p
          | o h => exact absurd hz (Nat.not_lt_zero _)
          | r u => exact p
          | l _ _ _ => exact ⟨p.1, by rw [loc_W ok hg hb]; exact p.2⟩
          | f ns => obtain ⟨a, z, y⟩ := p; exact ⟨a, z, by rw [loc_W ok hg hb]; exact y⟩
      exact all hcl z3
    | dK kvs => obtain ⟨vs, z1, z2, z3⟩ := q; exact ⟨vs, z1, z2, by rw [Zs.ImAll, loc_W ok hg hb]; exact z3⟩
    | dT kvs => obtain ⟨vs, z1, z2, z3⟩ := q; exact ⟨vs, z1, z2, by rw [Zs.ImAll, loc_W ok hg hb]; exact z3⟩
    | dN fs =>
      obtain ⟨us, z1, z2, z3⟩ := q
      refine ⟨us, z1, z2, ?_⟩
      have all : ∀ {vs : List V} {ss : List Sl}, (∀ s ∈ ss, SlIn 0 s) → RpAll K Z vs ss → RpAll K (Z.loc hs cs) vs ss := by
        intro vs ss hss r
        induction r with
        | nil => exact .nil
        | @cons v vs s ss p r ih =>
          refine .cons ?_ (ih fun x m => hss x (List.mem_cons_of_mem _ m))
          have hz := hss s List.mem_cons_self
          cases s with
          | d x => show Pz.Im K (Z.loc hs cs).W _ _ _; rw [loc_W ok hg hb]; exact p
          | o h => exact absurd hz (Nat.not_lt_zero _)
          | r u => exact p
          | l _ _ _ => exact ⟨p.1, by rw [loc_W ok hg hb]; exact p.2⟩
          | f ns => obtain ⟨a, z, y⟩ := p; exact ⟨a, z, by rw [loc_W ok hg hb]; exact y⟩
      refine all (fun s m => ?_) z3
      obtain ⟨p, hp, rfl⟩ := List.mem_map.mp m
      exact hcl p hp
    | ins C fs =>
      obtain ⟨dx, us, z1, z2, z3⟩ := q
      refine ⟨dx, us, z1, z2, ?_⟩
      have all : ∀ {vs : List V} {ss : List Sl}, (∀ s ∈ ss, SlIn 0 s) → RpAll K Z vs ss → RpAll K (Z.loc hs cs) vs ss := by
        intro vs ss hss r
        induction r with
        | nil => exact .nil
        | @cons v vs s ss p r ih =>
          refine .cons ?_ (ih fun x m => hss x (List.mem_cons_of_mem _ m))
          have hz := hss s List.mem_cons_self
          cases s with
          | d x => show Pz.Im K (Z.loc hs cs).W _ _ _; rw [loc_W ok hg hb]; exact p
          | o h => exact absurd hz (Nat.not_lt_zero _)
          | r u => exact p
          | l _ _ _ => exact ⟨p.1, by rw [loc_W ok hg hb]; exact p.2⟩
          | f ns => obtain ⟨a, z, y⟩ := p; exact ⟨a, z, by rw [loc_W ok hg hb]; exact y⟩
      refine all (fun s m => ?_) z3
      obtain ⟨p, hp, rfl⟩ := List.mem_map.mp m
      exact hcl p hp
    | exc c fs =>
      obtain ⟨cv, d, hc, z1, z2⟩ := q
      have s : Stay Z.W (Z.loc hs cs).W Z.H (Z.loc hs cs).H := by rw [loc_W ok hg hb]; exact Stay.less fun _ w => w
      exact ⟨cv, d, hc, z1, z2.tr s⟩
    | dead => exact q
  fo := fun a w => by
    have w' : Z.W a := w.1
    rcases w' with w' | w'
    · exact ok.has w'.mem
    · exact ok.fo a w'
  fd := fun a m w => w.2 m
  tb := ok.tb.less fun a w => by rw [← loc_W ok hg hb]; exact w
theorem loc_rp (ok : Ok K Z) (hg : getAll Z.st hs = some cs) (hb : ∀ h ∈ hs, h < Z.φ.length) {v : V} {s : Sl} (hm : ∀ h, s = .o h → h ∈ hs) (r : Rp K Z v s) : Rp K (Z.loc hs cs) v (locS hs s) := by
  cases s with
  | d x => show Pz.Im K (Z.loc hs cs).W _ _ _; rw [loc_W ok hg hb]; exact r
  | o h =>
    obtain ⟨a, c, e, e1, e2, e3⟩ := r
    have m := hm h rfl
    have q : hs[hs.idxOf h]? = some h := by
      rw [List.getElem?_eq_getElem (List.idxOf_lt_length_of_mem m)]
      exact congrArg some (List.getElem_idxOf _)
    obtain ⟨c', p1, p2⟩ := (getAll_get hg).2 _ h q
    rw [e2] at p1
    cases p1
    exact ⟨a, c, e, (loc_at hb q).trans e1, p2, e3⟩
  | r u => exact r
  | l _ _ _ => exact ⟨r.1, by rw [loc_W ok hg hb]; exact r.2⟩
  | f ns => obtain ⟨a, z, y⟩ := r; exact ⟨a, z, by rw [loc_W ok hg hb]; exact y⟩
end
section
variable {K : Frag} {Z Z' : Zs} {hs : List Nat} {cs : Sto}
theorem back_pre (l : Le (Z.loc hs cs) Z') : ∃ ψ, Z'.φ = (Z.loc hs cs).φ ++ ψ ∧ Z'.φ.drop hs.length = ψ ∧ ∀ a ∈ ψ, Z.H a = none := by
  obtain ⟨ψ, e, hn⟩ := l.pre
  refine ⟨ψ, e, ?_, hn⟩
  rw [e]
  have : (Z.loc hs cs).φ.length = hs.length := by simp [Zs.loc]
  rw [← this, List.drop_left]
theorem back_le (ok : Ok K Z) (hg : getAll Z.st hs = some cs) (hb : ∀ h ∈ hs, h < Z.φ.length) (nd : hs.Nodup) (l : Le (Z.loc hs cs) Z') (ok' : Ok K Z') : Le Z (Z.back Z' hs) := by
  obtain ⟨ψ, e, ed, hn⟩ := back_pre l
  have hb2 : ∀ h ∈ hs, h < Z.st.length := fun h m => by rw [← ok.len]; exact hb h m
  have hl : hs.length ≤ Z'.st.length := by
    rw [← ok'.len, e, List.length_append]
    simp [Zs.loc]
  obtain ⟨s1, s2, s3, s4⟩ := putAll_spec nd hb2 hl
  refine ⟨⟨ψ, by show Z.φ ++ _ = _; rw [ed], hn⟩, ok.len.symm, fun h c ec => ?_, fun a o ea na nt => ?_, rfl, fun a o ea => l.dom a o ea⟩
  · have hh : h < Z.st.length := (List.getElem?_eq_some_iff.mp ec).1
    show ∃ c', (putAll Z.st hs Z'.st)[h]? = some c' ∧ _
    by_cases m : h ∈ hs
    · obtain ⟨i, hi, ei⟩ := List.getElem_of_mem m
      have q : hs[i]? = some h := by rw [List.getElem?_eq_getElem hi, ei]
      obtain ⟨c', p1, p2⟩ := (getAll_get hg).2 i h q
      rw [ec] at p1
      cases p1
      obtain ⟨c2, r1, r2⟩ := l.liv i c p2
      exact ⟨c2, by rw [s2 i h q]; exact r1, r2⟩
    · exact ⟨c, by rw [s3 h hh m]; exact ec, Iff.rfl⟩
  · refine l.frm a o ea (fun w => ?_) nt
    obtain ⟨i, c, e1, e2, e3⟩ := w
    obtain ⟨h, q1, q2⟩ := loc_inv hb e1
    obtain ⟨c', p1, p2⟩ := (getAll_get hg).2 i h q1
    have e2' : cs[i]? = some c := e2
    rw [p2] at e2'
    cases e2'
    exact na ⟨h, _, q2, p1, e3⟩
theorem back_at (ok : Ok K Z) (hg : getAll Z.st hs = some cs) (hb : ∀ h ∈ hs, h < Z.φ.length) (nd : hs.Nodup) (l : Le (Z.loc hs cs) Z') (ok' : Ok K Z') {h : Nat} {a : Addr} {c : Ct} (e1 : (Z.back Z' hs).φ[h]? = some a) (e2 : (Z.back Z' hs).st[h]? = some c) :
    (h ∉ hs ∧ Z.φ[h]? = some a ∧ Z.st[h]? = some c) ∨ ∃ i : Nat, Z'.φ[i]? = some a ∧ Z'.st[i]? = some c := by
  obtain ⟨ψ, e, ed, hn⟩ := back_pre l
  have hb2 : ∀ h ∈ hs, h < Z.st.length := fun h m => by rw [← ok.len]; exact hb h m
  have lφ : (Z.loc hs cs).φ.length = hs.length := by simp [Zs.loc]
  have hl : hs.length ≤ Z'.st.length := by
    rw [← ok'.len, e, List.length_append, lφ]
    omega
  obtain ⟨s1, s2, s3, s4⟩ := putAll_spec nd hb2 hl
  have e1' : (Z.φ ++ ψ)[h]? = some a := by rw [← ed]; exact e1
  have e2' : (putAll Z.st hs Z'.st)[h]? = some c := e2
  by_cases hh : h < Z.φ.length
  · rw [List.getElem?_append_left hh] at e1'
    by_cases m : h ∈ hs
    · obtain ⟨i, hi, ei⟩ := List.getElem_of_mem m
      have q : hs[i]? = some h := by rw [List.getElem?_eq_getElem hi, ei]
      refine .inr ⟨i, ?_, by rw [← s2 i h q]; exact e2'⟩
      rw [e, List.getElem?_append_left (by rw [lφ]; exact hi), loc_at hb q]
      exact e1'
    · exact .inl ⟨m, e1', by rw [← s3 h (by rw [← ok.len]; exact hh) m]; exact e2'⟩
  · rw [List.getElem?_append_right (by omega)] at e1'
    refine .inr ⟨hs.length + (h - Z.φ.length), ?_, ?_⟩
    · rw [e, List.getElem?_append_right (by rw [lφ]; omega), lφ, Nat.add_sub_cancel_left]
      exact e1'
    · rw [← s4 (h - Z.φ.length), ← ok.len]
      rw [show Z.φ.length + (h - Z.φ.length) = h by omega]
      exact e2'
theorem back_W (ok : Ok K Z) (hg : getAll Z.st hs = some cs) (hb : ∀ h ∈ hs, h < Z.φ.length) (nd : hs.Nodup) (l : Le (Z.loc hs cs) Z') (ok' : Ok K Z') (a : Addr) (w : (Z.back Z' hs).W a) : Z'.W a := by
  have notin : ∀ (h : Nat), h ∉ hs → Z.φ[h]? = some a → a ∉ (Z.loc hs cs).φ := fun h m q1 z => by
    obtain ⟨i, hi, e⟩ := List.getElem_of_mem z
    obtain ⟨h', r1, r2⟩ := loc_inv (cs := cs) hb (show (Z.loc hs cs).φ[i]? = some a by rw [List.getElem?_eq_getElem hi, e])
    have lt1 := (List.getElem?_eq_some_iff.mp q1).1
    have lt2 := (List.getElem?_eq_some_iff.mp r2).1
    rw [List.getElem?_eq_getElem lt1] at q1
    rw [List.getElem?_eq_getElem lt2] at r2
    have z : h = h' := (List.getElem_inj ok.nd).mp ((Option.some.inj q1).trans (Option.some.inj r2).symm)
    exact m (z ▸ List.mem_of_getElem? r1)
  rcases w with ⟨h, c, e1, e2, e3⟩ | w
  · rcases back_at ok hg hb nd l ok' e1 e2 with ⟨m, q1, q2⟩ | ⟨i, q1, q2⟩
    · refine .inr ?_
      rw [l.fgn]
      exact ⟨.inl ⟨h, c, q1, q2, e3⟩, notin h m q1⟩
    · exact .inl ⟨i, c, q1, q2, e3⟩
  · refine .inr ?_
    rw [l.fgn]
    refine ⟨.inr w, fun z => ?_⟩
    have z' : a ∈ (Z.loc hs cs).φ := z
    obtain ⟨i, hi, e⟩ := List.getElem_of_mem z'
    obtain ⟨h', r1, r2⟩ := loc_inv (cs := cs) hb (show (Z.loc hs cs).φ[i]? = some a by rw [List.getElem?_eq_getElem hi, e])
    exact ok.fd a (List.mem_of_getElem? r2) w
theorem back_rp (ok : Ok K Z) (hg : getAll Z.st hs = some cs) (hb : ∀ h ∈ hs, h < Z.φ.length) (nd : hs.Nodup) (l : Le (Z.loc hs cs) Z') (ok' : Ok K Z') {v : V} {s : Sl} (r : Rp K Z' v s) : Rp K (Z.back Z' hs) v (gloS hs Z.st.length s) := by
  have hW := back_W ok hg hb nd l ok'
  cases s with
  | d x => exact Im.tr (Stay.less hW) (show Pz.Im K Z'.W Z'.H v x from r)
  | r u => exact r
  | l _ _ _ => exact ⟨r.1, r.2.trans (Stay.less hW)⟩
  | f ns => obtain ⟨a, z, y⟩ := r; exact ⟨a, z, y.tr (Stay.less hW)⟩
  | o j =>
    obtain ⟨a, c, ev, e1, e2, e3⟩ := r
    obtain ⟨ψ, e, ed, hn⟩ := back_pre l
    have hb2 : ∀ h ∈ hs, h < Z.st.length := fun h m => by rw [← ok.len]; exact hb h m
    have lφ : (Z.loc hs cs).φ.length = hs.length := by simp [Zs.loc]
    have hl : hs.length ≤ Z'.st.length := by
      rw [← ok'.len, e, List.length_append, lφ]
      omega
    obtain ⟨s1, s2, s3, s4⟩ := putAll_spec nd hb2 hl
    by_cases hj : j < hs.length
    · have q : hs[j]? = some (hs.getD j 0) := by
        rw [List.getD_eq_getElem?_getD, List.getElem?_eq_getElem hj]
        rfl
      refine ⟨a, c, ev, ?_, ?_, e3⟩
      · simp only [if_pos hj]
        show (Z.φ ++ _)[_]? = _
        rw [List.getElem?_append_left (hb _ (List.mem_of_getElem? q)), ← loc_at (cs := cs) hb q]
        rw [e, List.getElem?_append_left (by rw [lφ]; exact hj)] at e1
        exact e1
      · simp only [if_pos hj]
        show (putAll Z.st hs Z'.st)[_]? = _
        rw [s2 j _ q]
        exact e2
    · refine ⟨a, c, ev, ?_, ?_, e3⟩
      · simp only [if_neg hj]
        show (Z.φ ++ Z'.φ.drop hs.length)[_]? = _
        rw [ed, List.getElem?_append_right (by rw [ok.len]; omega), ok.len, Nat.add_sub_cancel_left]
        rw [e, List.getElem?_append_right (by rw [lφ]; omega), lφ] at e1
        exact e1
      · simp only [if_neg hj]
        show (putAll Z.st hs Z'.st)[_]? = _
        rw [s4]
        rw [show hs.length + (j - hs.length) = j by omega]
        exact e2
end
section
variable {K : Frag} {Z Z' : Zs} {hs : List Nat} {cs : Sto}
theorem cl_tr (hW : ∀ a, Z'.W a → Z.W a) (hH : Z'.H = Z.H) {a : Addr} : ∀ {c : Ct}, Cl 0 c → CtOk K Z a c → CtOk K Z' a c
  | .lst ds, _, h => by
    obtain ⟨vs, e, q⟩ := h
    have q' := ImAll.tr (Stay.less hW) (show Pz.ImAll K Z.W Z.H vs ds from q)
    rw [← hH] at e q'
    exact ⟨vs, e, q'⟩
  | .lsS xs, hc, h => by
    obtain ⟨us, e, q⟩ := h
    have all : ∀ {vs : List V} {ss : List Sl}, (∀ s ∈ ss, SlIn 0 s) → RpAll K Z vs ss → RpAll K Z' vs ss := by
      intro vs ss hss r
      induction r with
      | nil => exact .nil
      | @cons v vs s ss p r ih =>
        refine .cons ?_ (ih fun x m => hss x (List.mem_cons_of_mem _ m))
        have hz := hss s List.mem_cons_self
        cases s with
        | d x => show Pz.Im K Z'.W Z'.H _ _; rw [hH]; exact Im.tr (Stay.less hW) (show Pz.Im K Z.W Z.H v x from p)
        | o h => exact absurd hz (Nat.not_lt_zero _)
        | r u => exact p
        | l _ _ _ => exact ⟨p.1, by rw [hH]; exact p.2.trans (Stay.less hW)⟩
        | f ns => obtain ⟨a, z, y⟩ := p; exact ⟨a, z, by rw [hH]; exact y.tr (Stay.less hW)⟩
    rw [← hH] at e
    exact ⟨us, e, all hc q⟩
  | .dK kvs, _, h => by
    obtain ⟨vs, e, e2, q⟩ := h
    have q' := ImAll.tr (Stay.less hW) (show Pz.ImAll K Z.W Z.H _ _ from q)
    rw [← hH] at e q'
    exact ⟨vs, e, e2, q'⟩
  | .dT kvs, _, h => by
    obtain ⟨vs, e, e2, q⟩ := h
    have q' := ImAll.tr (Stay.less hW) (show Pz.ImAll K Z.W Z.H _ _ from q)
    rw [← hH] at e q'
    exact ⟨vs, e, e2, q'⟩
  | .dN fs, hc, h => by
    obtain ⟨us, e, e2, q⟩ := h
    have all : ∀ {vs : List V} {ss : List Sl}, (∀ s ∈ ss, SlIn 0 s) → RpAll K Z vs ss → RpAll K Z' vs ss := by
      intro vs ss hss r
      induction r with
      | nil => exact .nil
      | @cons v vs s ss p r ih =>
        refine .cons ?_ (ih fun x m => hss x (List.mem_cons_of_mem _ m))
        have hz := hss s List.mem_cons_self
        cases s with
        | d x => show Pz.Im K Z'.W Z'.H _ _; rw [hH]; exact Im.tr (Stay.less hW) (show Pz.Im K Z.W Z.H v x from p)
        | o h => exact absurd hz (Nat.not_lt_zero _)
        | r u => exact p
        | l _ _ _ => exact ⟨p.1, by rw [hH]; exact p.2.trans (Stay.less hW)⟩
        | f ns => obtain ⟨a, z, y⟩ := p; exact ⟨a, z, by rw [hH]; exact y.tr (Stay.less hW)⟩
    rw [← hH] at e
    refine ⟨us, e, e2, all (fun s m => ?_) q⟩
    obtain ⟨p, hp, rfl⟩ := List.mem_map.mp m
    exact hc p hp
  | .ins C fs, hc, h => by
    obtain ⟨dx, us, e, e2, q⟩ := h
    have all : ∀ {vs : List V} {ss : List Sl}, (∀ s ∈ ss, SlIn 0 s) → RpAll K Z vs ss → RpAll K Z' vs ss := by
      intro vs ss hss r
      induction r with
      | nil => exact .nil
      | @cons v vs s ss p r ih =>
        refine .cons ?_ (ih fun x m => hss x (List.mem_cons_of_mem _ m))
        have hz := hss s List.mem_cons_self
        cases s with
        | d x => show Pz.Im K Z'.W Z'.H _ _; rw [hH]; exact Im.tr (Stay.less hW) (show Pz.Im K Z.W Z.H v x from p)
        | o h => exact absurd hz (Nat.not_lt_zero _)
        | r u => exact p
        | l _ _ _ => exact ⟨p.1, by rw [hH]; exact p.2.trans (Stay.less hW)⟩
        | f ns => obtain ⟨a, z, y⟩ := p; exact ⟨a, z, by rw [hH]; exact y.tr (Stay.less hW)⟩
    rw [← hH] at e
    refine ⟨dx, us, e, e2, all (fun s m => ?_) q⟩
    obtain ⟨p, hp, rfl⟩ := List.mem_map.mp m
    exact hc p hp
  | .exc c fs, _, h => by
    obtain ⟨cv, d, hc, e, q⟩ := h
    have s : Stay Z.W Z'.W Z.H Z'.H := by rw [hH]; exact Stay.less hW
    rw [← hH] at e
    exact ⟨cv, d, hc, e, q.tr s⟩
  | .dead, _, h => by
    show Z'.H a ≠ none
    rw [hH]
    exact h
theorem back_Ok (ok : Ok K Z) (hg : getAll Z.st hs = some cs) (hb : ∀ h ∈ hs, h < Z.φ.length) (nd : hs.Nodup) (l : Le (Z.loc hs cs) Z') (ok' : Ok K Z') (hc : ∀ c ∈ Z'.st, Cl 0 c) : Ok K (Z.back Z' hs) := by
  obtain ⟨ψ, e, ed, hn⟩ := back_pre l
  have hb2 : ∀ h ∈ hs, h < Z.st.length := fun h m => by rw [← ok.len]; exact hb h m
  have lφ : (Z.loc hs cs).φ.length = hs.length := by simp [Zs.loc]
  have hl : hs.length ≤ Z'.st.length := by
    rw [← ok'.len, e, List.length_append, lφ]
    omega
  obtain ⟨s1, s2, s3, s4⟩ := putAll_spec nd hb2 hl
  have ll := back_le ok hg hb nd l ok'
  refine ⟨?_, ?_, fun h a c e1 e2 => ?_, fun a w => ?_, fun a m w => ?_, ok'.tb.less (back_W ok hg hb nd l ok')⟩
  · show (Z.φ ++ _).length = (putAll Z.st hs Z'.st).length
    rw [ed, s1, List.length_append, ok.len, ← ok'.len, e, List.length_append, lφ]
    omega
  · show (Z.φ ++ _).Nodup
    rw [ed]
    refine List.nodup_append.mpr ⟨ok.nd, ?_, fun a ha b hb' z => ?_⟩
    · have := ok'.nd
      rw [e] at this
      exact (List.nodup_append.mp this).2.1
    · subst z
      exact ok.fresh (hn a hb') ha
  · rcases back_at ok hg hb nd l ok' e1 e2 with ⟨m, q1, q2⟩ | ⟨i, q1, q2⟩
    · refine ctok_st ll.stay (fun r => r.tr ll) (fun o eo nt => ?_) (fun o eo => l.dom a o eo) (ok.ct h a c q1 q2)
      refine l.frm a o eo (fun w => ?_) nt
      obtain ⟨j, c', p1, p2, p3⟩ := w
      obtain ⟨h', r1, r2⟩ := loc_inv hb p1
      have lt1 := (List.getElem?_eq_some_iff.mp q1).1
      have lt2 := (List.getElem?_eq_some_iff.mp r2).1
      rw [List.getElem?_eq_getElem lt1] at q1
      rw [List.getElem?_eq_getElem lt2] at r2
      have z : h = h' := (List.getElem_inj ok.nd).mp (by rw [Option.some.inj q1, Option.some.inj r2])
      exact m (z ▸ List.mem_of_getElem? r1)
    · exact cl_tr (Z := Z') (Z' := Z.back Z' hs) (back_W ok hg hb nd l ok') rfl (hc c (List.mem_of_getElem? q2)) (ok'.ct i a c q1 q2)
  · obtain ⟨o, eo⟩ := ok.fo a w
    exact l.dom a o eo
  · rcases List.mem_append.mp (show a ∈ Z.φ ++ Z'.φ.drop hs.length from m) with m | m
    · exact ok.fd a m w
    · rw [ed] at m
      obtain ⟨o, eo⟩ := ok.fo a w
      rw [hn a m] at eo
      cases eo
theorem mem_o : ∀ {vs : List V} {ss : List Sl}, RpAll K Z vs ss → ∀ h, Sl.o h ∈ ss → h < Z.φ.length
  | _, _, .nil, _, m => by cases m
  | _, _, .cons p r, h, m => by
    rcases List.mem_cons.mp m with e | m
    · subst e; exact rp_handle p
    · exact mem_o r h m
theorem hsOf_in : ∀ {ss : List Sl} {h : Nat}, h ∈ hsOf ss → Sl.o h ∈ ss
  | .o j :: r, h, m => by
    unfold hsOf at m
    rcases List.mem_cons.mp m with e | m
    · subst e; exact List.mem_cons_self
    · exact List.mem_cons_of_mem _ (hsOf_in (List.mem_filter.mp m).1)
  | .d _ :: r, h, m => List.mem_cons_of_mem _ (hsOf_in (ss := r) m)
  | .r _ :: r, h, m => List.mem_cons_of_mem _ (hsOf_in (ss := r) m)
  | .l _ _ _ :: r, h, m => List.mem_cons_of_mem _ (hsOf_in (ss := r) m)
  | .f _ :: r, h, m => List.mem_cons_of_mem _ (hsOf_in (ss := r) m)
  | [], _, m => by cases m
theorem xd_back (ok : Ok K Z) (hg : getAll Z.st hs = some cs) (hb : ∀ h ∈ hs, h < Z.φ.length) (nd : hs.Nodup) (l : Le (Z.loc hs cs) Z') (ok' : Ok K Z') {fs : List (Str × PyData)} : ∀ {d : Option Addr}, XdOk K Z' fs d → XdOk K (Z.back Z' hs) fs d
  | none, h => h
  | some a, h => by
    obtain ⟨nw, us, e, e2, q⟩ := h
    exact ⟨fun w => nw (back_W ok hg hb nd l ok' _ w), us, e, e2, ImAll.tr (Stay.less (back_W ok hg hb nd l ok')) (show Pz.ImAll K Z'.W Z'.H _ _ from q)⟩
theorem loc_sp {vs : List V} {ss : List Sl} {dsp : DSp} {Qd : DK} {Q : VK} {Ed : DXF} {E : XK} {n : Nat} (ok : Ok K Z) (ra : RpAll K Z vs ss) (hn : ss.length = n) (h : locCall dsp ss Z.st Qd Ed) (k : KOk K Z Qd Q) (kx : KXF K Z Ed E) : toSp K n dsp vs Z.H Q E := by
  unfold locCall at h
  split at h
  · rename_i cs hg
    obtain ⟨hc, h⟩ := h
    have hb : ∀ h ∈ hsOf ss, h < Z.φ.length := fun h m => mem_o ra h (hsOf_in m)
    have nd := hsOf_nd ss
    refine ⟨Z.loc (hsOf ss) cs, ss.map (locS (hsOf ss)), _, _, rfl, loc_Ok ok hg hb nd hc, ?_, by rw [List.length_map]; exact hn, h, fun Z' v s l ok' r q => ?_, fun Z' c xn d fs l ok' x hcv q => ?_⟩
    · have all : ∀ {vs : List V} {ss' : List Sl}, (∀ h, Sl.o h ∈ ss' → h ∈ hsOf ss) → RpAll K Z vs ss' → RpAll K (Z.loc (hsOf ss) cs) vs (ss'.map (locS (hsOf ss))) := by
        intro vs ss' hm r
        induction r with
        | nil => exact .nil
        | cons p r ih => exact .cons (loc_rp ok hg hb (fun h e => hm h (by rw [← e]; exact List.mem_cons_self)) p) (ih fun h m => hm h (List.mem_cons_of_mem _ m))
      exact all (fun h m => hsOf_mem m) ra
    · exact k (Z.back Z' (hsOf ss)) v _ (back_le ok hg hb nd l ok') (back_Ok ok hg hb nd l ok' q.1) (back_rp ok hg hb nd l ok' r) q.2
    · exact kx (Z.back Z' (hsOf ss)) c xn d fs (back_le ok hg hb nd l ok') (back_Ok ok hg hb nd l ok' q.1) (xd_back ok hg hb nd l ok' x) hcv q.2
  · exact h.elim
end
section
variable {X : Cx} {CX : CXT} {k : Nat} {f : Addr} {fd : FuncData} {ps : List Str} {sp : Sp} {E : XK} {x : Str} {p pos : Pos} {e : Expr} {es : List Expr} {t : TA}
theorem runG {pins : List (Addr × Obj)} {σ : L2.St} {H : Hp} {s : Shared} {Q : VK} {us : List Value} {kw : List (Str × Value)} {vs : List V} {ws : List Value} (F : FnG X.prog X.w X.K X.mg X.base CX k f fd ps sp) (hg : X.A.guards = some []) (hr : Room k X.A) (hb : BindsTo s fd ⟨us, kw⟩ (ps.zip ws)) (hx : Passes CX X E)
    (I : L2.Inv X pins σ H s) (r : Vals vs ws) (h : sp vs H Q E) : wpAny (model X.prog X.w) X.A (call (.ref f) us kw) (EP X pins σ Q) X.xe s := by
  apply wpAny_call
  refine codeAny_mono (F.go X.A hg hr X.stack s H I.env0 ⟨us, kw⟩ ws hb vs Q E r h) ?_
  rintro (er | fl) s' q
  · exact hx pins σ H s er s' I q
  · rcases fl with _ | _ | _ | u
    · exact q.elim
    · exact q.elim
    · exact q.elim
    · exact I.after q
theorem pe_callG (F : FnG X.prog X.w X.K X.mg X.base CX k f fd ps sp) (hA : X.A.guards = some []) (hr : Room k X.A) (hg : Gl X x) (hm : X.mg x = some (.ref f)) (hk : PySem.W.keepIn X.K (.ref f) = true) (hb : Binds X.K fd ps []) (hx : Passes CX X E)
    (ha : PA X (e :: es) t) (hdb : (x == ("__debug__" : Str)) = false := by decide) (he : starEach (e :: es) X.env = (false, eval e X.env) :: starEach es X.env := by rfl) (hpl : (backTo pos (starEach es X.env)).any (·.1) = false := by rfl) :
    PE X (.Call (.Name x p) (e :: es) [] pos) (tCall sp [] E t) := by
  constructor
  intro pins s σ H Q I h
  refine wpAny_Call_Name_kw (ld_glob I hg hm (PySem.W.callWith_K (h₀ := X.base) I.ok.mod.kin hk (thn (ha.run pos pins s σ H _ I h) ?_) he hpl) hdb)
  rintro us s1 ⟨vs, H1, I1, r, q⟩
  rw [List.append_nil] at q
  have b := hb s1 us I1.kIn (by rw [List.append_nil, ← r.length]; exact F.len _ _ _ _ q)
  rw [List.append_nil] at b
  exact ⟨I1.kIn, runG F hA hr b hx I1 r q⟩
structure KwB (K : Frag) (fd : FuncData) (ps : List Str) (n : Nat) (ks : List Str) (g : ∀ {α : Type}, List α → List α → List α) : Prop where
  to : ∀ (s : Shared) (us ws : List Value), K.In s.heap → us.length = n → ws.length = ks.length → BindsTo s fd ⟨us, ks.zip ws⟩ (ps.zip (g us ws))
  rel : ∀ {vs : List V} {us : List Value} {zs : List V} {ws : List Value}, vs.length = n → zs.length = ks.length → Vals vs us → Vals zs ws → Vals (g vs zs) (g us ws)
variable {kws : List Keyword} {tk : TA} {n : Nat} {ks : List Str} {g : ∀ {α : Type}, List α → List α → List α}
def tCallW (n m : Nat) (sp : Sp) (g : ∀ {α : Type}, List α → List α → List α) (E : XK) (t tk : TA) : TE := fun σ H Q => t σ H fun vs H1 => tk σ H1 fun zs H2 => vs.length = n ∧ zs.length = m ∧ sp (g vs zs) H2 Q E
end
end Pz
set_option maxRecDepth 100000
namespace Pz
open PySem PySem.Spec PyProof.Rows L2 TL
variable [TabC]
section
variable {X : Cx} {E : WXs} {Z0 : Zs} {a b c e : Expr} {es : List Expr} {ta tb tc te : DE} {t : DA} {pos p : Pos} {x : Str}
def wNil : DA := fun _ _ st Q => Q [] st
def wCons (te : DE) (t : DA) : DA := fun Ed sl st Q => te Ed sl st fun x st => t Ed sl st fun xs st => Q (x :: xs) st
theorem da_nil : DAs X E [] wNil := ⟨paI pa_nil fun σ H Q ⟨Z, sl, Qd, Ed, h, ok, so, w, k, kx⟩ => by
  subst h
  exact k Z [] [] (.refl ok) ok .nil w⟩
theorem cons_ok {σ : L2.St} {H : Hp} {Q : List V → Hp → Prop} (h : upA X.K E (wCons te t) σ H Q) : tCons (upE X.K E te) (upA X.K E t) σ H Q := by
  obtain ⟨Z, sl, Qd, Ed, h, ok, so, w, k, kx⟩ := h
  refine ⟨Z, sl, _, Ed, h, ok, so, w, fun Z1 v s l1 ok1 r1 w1 => ?_, kx⟩
  refine ⟨Z1, sl, _, Ed, rfl, ok1, so.tr l1, w1, fun Z2 vs ss l2 ok2 r2 w2 => ?_, kx.le l1⟩
  exact k Z2 (v :: vs) (s :: ss) (l1.trans l2) ok2 (.cons (r1.tr l2) r2) w2
theorem da_cons (ha : DEx X E e te) (hr : DAs X E es t) (hs : starEach (e :: es) X.env = (false, eval e X.env) :: starEach es X.env := by rfl) : DAs X E (e :: es) (wCons te t) :=
  ⟨paI (pa_cons ha.run hr.run hs) fun _ _ _ h => cons_ok h⟩
structure DKs (X : Cx) (E : WXs) (ks : List Keyword) (τ : DA) : Prop where
  run : PK X ks (upA X.K E τ)
def wCall (dsp : DSp) (t : DA) : DE := fun Ed sl st Q => t Ed sl st fun ss st => locCall dsp ss st Q fun _ _ _ => False
variable {k n m : Nat} {f : Addr} {fd : FuncData} {ps ks : List Str} {dsp : DSp} {kws : List Keyword} {tk : DA}
theorem locCall_len {ss : List Sl} {st : Sto} {Q : DK} {Ed : DXF} (h : locCall dsp ss st Q Ed) (hl : ∀ ss cs Q Ed, dsp ss cs Q Ed → ss.length = n) : ss.length = n := by
  unfold locCall at h
  split at h
  · have := hl _ _ _ _ h.2
    simpa using this
  · exact h.elim
theorem de_call (F : FnD X.prog X.w X.K X.mg X.base CX0 k f fd ps dsp) (hA : X.A.guards = some []) (hr : Room k X.A) (hl : ∀ ss cs Q Ed, dsp ss cs Q Ed → ss.length = ps.length) (hg : Gl X x) (hm : X.mg x = some (.ref f)) (hk : PySem.W.keepIn X.K (.ref f) = true) (hb : Binds X.K fd ps [])
    (ha : DAs X E (e :: es) t) (hdb : (x == ("__debug__" : Str)) = false := by decide) (he : starEach (e :: es) X.env = (false, eval e X.env) :: starEach es X.env := by rfl) (hpl : (backTo pos (starEach es X.env)).any (·.1) = false := by rfl) :
    DEx X E (.Call (.Name x p) (e :: es) [] pos) (wCall dsp t) :=
  ⟨peI (pe_callG F hA hr hg hm hk hb pass0 ha.run hdb he hpl) fun σ H Q ⟨Z, sl, Qd, Ed, h, ok, so, w, kq, kx⟩ =>
    ⟨Z, sl, _, Ed, h, ok, so, w, fun Z1 vs ss l1 ok1 r1 w1 => by
      show toSp X.K ps.length dsp (vs ++ []) Z1.H Q E0
      rw [List.append_nil]
      exact loc_sp ok1 r1 (locCall_len w1 hl) w1 (kq.le l1) (fun _ _ _ _ _ _ _ _ _ z => z), kx⟩⟩
def wCallW (n m : Nat) (dsp : DSp) (g : ∀ {α : Type}, List α → List α → List α) (t tk : DA) : DE := fun Ed sl st Q => t Ed sl st fun ss st => tk Ed sl st fun zs st => ss.length = n ∧ zs.length = m ∧ locCall dsp (g ss zs) st Q fun _ _ _ => False
structure KwD (K : Frag) (fd : FuncData) (ps : List Str) (n : Nat) (ks : List Str) (g : ∀ {α : Type}, List α → List α → List α) : Prop where
  kb : KwB K fd ps n ks g
  rp : ∀ {Z : Zs} {vs zs : List V} {ss us : List Sl}, ss.length = n → us.length = ks.length → RpAll K Z vs ss → RpAll K Z zs us → RpAll K Z (g vs zs) (g ss us)
variable {g : ∀ {α : Type}, List α → List α → List α}
abbrev FA := List Sl → Sto → DK → Prop
def CallD (K : Frag) (r : List V → Hp → VK → Prop) (f : FA) : Prop := ∀ (Z : Zs) (vs : List V) (ss : List Sl) (Qd : DK) (Q : VK), Ok K Z → RpAll K Z vs ss → f ss Z.st Qd → KOk K Z Qd Q → r vs Z.H Q
def wApp (f : FA) (t : DA) : DE := fun Ed sl st Q => t Ed sl st fun ss st => f ss st Q
theorem app_ok {r : List V → Hp → VK → Prop} {f : FA} (hd : CallD X.K r f) {σ : L2.St} {H : Hp} {Q : VK} (h : upE X.K E (wApp f t) σ H Q) : tCB r (upA X.K E t) σ H Q := by
  obtain ⟨Z, sl, Qd, Ed, h, ok, so, w, kq, kx⟩ := h
  exact ⟨Z, sl, _, Ed, h, ok, so, w, fun Z1 vs ss l1 ok1 r1 w1 => hd Z1 vs ss Qd Q ok1 r1 w1 (kq.le l1), kx⟩
theorem de_callB {id : String} {r : List V → Hp → VK → Prop} {f : FA} (hd : CallD X.K r f) (hc : CallR X (.builtin id) r) (hg : Gl X x) (hm : X.mg x = none) (hv : bootBuiltins x = some (.builtin id)) (ha : DAs X E (e :: es) t) (hn : x ≠ "__name__" := by decide) (hdb : (x == ("__debug__" : Str)) = false := by decide)
    (he : starEach (e :: es) X.env = (false, eval e X.env) :: starEach es X.env := by rfl) (hpl : (backTo pos (starEach es X.env)).any (·.1) = false := by rfl) : DEx X E (.Call (.Name x p) (e :: es) [] pos) (wApp f t) :=
  ⟨peI (pe_callB hc hg hm hv ha.run hn hdb he hpl) fun _ _ _ h => app_ok hd h⟩
theorem de_callTy {id : String} {r : List V → Hp → VK → Prop} {f : FA} (hd : CallD X.K r f) (hc : CallR X (.type id) r) (hg : Gl X x) (hm : X.mg x = none) (hv : bootBuiltins x = some (.type id)) (ha : DAs X E (e :: es) t) (hn : x ≠ "__name__" := by decide) (hdb : (x == ("__debug__" : Str)) = false := by decide)
    (he : starEach (e :: es) X.env = (false, eval e X.env) :: starEach es X.env := by rfl) (hpl : (backTo pos (starEach es X.env)).any (·.1) = false := by rfl) : DEx X E (.Call (.Name x p) (e :: es) [] pos) (wApp f t) :=
  ⟨peI (pe_callTy hc hg hm hv ha.run hn hdb he hpl) fun _ _ _ h => app_ok hd h⟩
def dsOf : List Sl → Option (List PyData)
  | [] => some []
  | .d x :: r => match dsOf r with
    | some ds => some (x :: ds)
    | none => none
  | .o _ :: _ => none
  | .r _ :: _ => none
  | .l _ _ _ :: _ => none
  | .f _ :: _ => none
theorem dsOf_ok {K : Frag} {Z : Zs} : ∀ {vs : List V} {ss : List Sl} {ds : List PyData}, RpAll K Z vs ss → dsOf ss = some ds → Z.ImAll K vs ds
  | _, _, ds, .nil, e => by simp only [dsOf, Option.some.injEq] at e; subst e; exact .nil
  | _, _, ds, .cons (s := .d x) p r, e => by
    simp only [dsOf] at e
    split at e
    · rename_i ds' e'
      simp only [Option.some.injEq] at e
      subst e
      exact .cons p (dsOf_ok r e')
    · cases e
  | _, _, ds, .cons (s := .o h) p r, e => by simp [dsOf] at e
  | _, _, ds, .cons (s := .r _) p r, e => by simp [dsOf] at e
  | _, _, ds, .cons (s := .l _ _ _) p r, e => by simp [dsOf] at e
  | _, _, ds, .cons (s := .f h) p r, e => by simp [dsOf] at e
def wLst (t : DA) : DE := fun Ed sl st Q => t Ed sl st fun ss st => match dsOf ss with
  | some ds => ds.length ≤ sizeLine ∧ Q (.d (.list ds)) st
  | none => False
def wTup (t : DA) : DE := fun Ed sl st Q => t Ed sl st fun ss st => match dsOf ss with
  | some ds => ds.length ≤ sizeLine ∧ Q (.d (.tuple ds)) st
  | none => False
def wLstO (t : DA) : DE := fun Ed sl st Q => t Ed sl st fun ss st => match dsOf ss with
  | some ds => ds.length ≤ sizeLine ∧ Q (.o st.length) (st ++ [.lst ds])
  | none => False
theorem de_lst (h : DAs X E es t) : DEx X E (.List es pos) (wLst t) := ⟨peI (pe_lst h.run) fun σ H Q ⟨Z, sl, Qd, Ed, h, ok, so, w, kq, kx⟩ =>
  ⟨Z, sl, _, Ed, h, ok, so, w, fun Z1 vs ss l1 ok1 r1 w1 => by
    simp only at w1
    split at w1
    · rename_i ds e
      have q := dsOf_ok r1 e
      exact ⟨by rw [q.length]; exact w1.1, (kq.le l1).newL ok1 q w1.2⟩
    · exact w1.elim, kx⟩⟩
theorem de_tup {x1 : Nat} (h : DAs X E es t) : DEx X E (.Tuple es x1 pos) (wTup t) := ⟨peI (pe_tup h.run) fun σ H Q ⟨Z, sl, Qd, Ed, h, ok, so, w, kq, kx⟩ =>
  ⟨Z, sl, _, Ed, h, ok, so, w, fun Z1 vs ss l1 ok1 r1 w1 => by
    simp only at w1
    split at w1
    · rename_i ds e
      have q := dsOf_ok r1 e
      exact ⟨by rw [q.length]; exact w1.1, (kq.le l1).newT ok1 q w1.2⟩
    · exact w1.elim, kx⟩⟩
def Zs.own (Z : Zs) (p : Addr) (o : HO) (c : Ct) : Zs := ⟨Z.φ ++ [p], Z.st ++ [c], upd Z.H p o, Z.F⟩
theorem app1_get {α : Type} {l : List α} {y z : α} {i : Nat} (h : (l ++ [y])[i]? = some z) : l[i]? = some z ∨ (i = l.length ∧ z = y) := by
  by_cases hi : i < l.length
  · rw [List.getElem?_append_left hi] at h; exact .inl h
  · rw [List.getElem?_append_right (by omega)] at h
    have : i - l.length = 0 := by
      have := (List.getElem?_eq_some_iff.mp h).1
      simp at this
      omega
    rw [this] at h
    simp at h
    exact .inr ⟨by omega, h.symm⟩
section
variable {K : Frag} {Z : Zs} {q : Addr} {o : HO} {ct : Ct}
theorem Ok.leOwn (ok : Ok K Z) (n : Z.H q = none) : Le Z (Z.own q o ct) where
  pre := ⟨[q], rfl, fun a h => by have : a = q := by simpa using h
                                  subst this; exact n⟩
  len := ok.len.symm
  liv := fun h c e => ⟨c, by show (Z.st ++ [ct])[h]? = _; rw [List.getElem?_append_left (List.getElem?_eq_some_iff.mp e).1]; exact e, Iff.rfl⟩
  frm := fun a u e _ _ => upd_keep n e
  fgn := rfl
  dom := fun a u e => ⟨u, upd_keep n e⟩
theorem Ok.own (ok : Ok K Z) (n : Z.H q = none) (hc : CtOk K (Z.own q o ct) q ct) (ho : NotTbl o := by exact fun _ z => nomatch z) : Ok K (Z.own q o ct) where
  len := by show (Z.φ ++ [q]).length = (Z.st ++ [ct]).length; rw [List.length_append, List.length_append, ok.len]; rfl
  nd := List.nodup_append.mpr ⟨ok.nd, by simp, fun a ha b hb z => by
    have : b = q := by simpa using hb
    subst this z
    exact ok.fresh n ha⟩
  ct := fun h a c e1 e2 => by
    have e1' : (Z.φ ++ [q])[h]? = some a := e1
    have e2' : (Z.st ++ [ct])[h]? = some c := e2
    rcases app1_get e1' with e1' | ⟨e1', z1⟩
    · rcases app1_get e2' with e2' | ⟨e2', z2⟩
      · exact ctok_st (ok.leOwn n).stay (fun q => q.tr (ok.leOwn n)) (fun u e _ => upd_keep n e) (fun u e => ⟨u, upd_keep n e⟩) (ok.ct h a c e1' e2')
      · have := (List.getElem?_eq_some_iff.mp e1').1
        rw [ok.len] at this
        omega
    · rcases app1_get e2' with e2' | ⟨e2', z2⟩
      · have := (List.getElem?_eq_some_iff.mp e2').1
        rw [← ok.len] at this
        omega
      · subst z1 z2
        exact hc
  fo := fun a h => let ⟨u, e⟩ := ok.fo a h; ⟨u, upd_keep n e⟩
  fd := fun a m f => by
    rcases List.mem_append.mp (show a ∈ Z.φ ++ [q] from m) with m | m
    · exact ok.fd a m f
    · have : a = q := by simpa using m
      subst this
      obtain ⟨o, e⟩ := ok.fo a f
      rw [n] at e; cases e
  tb := tabs_new ok.tb n (ok.leOwn (o := o) (ct := ct) n).w ho fun xs e w => by
    have eq : (Z.own q o ct).H q = some (.tup xs) := by rw [← e]; exact upd_same
    rcases w with ⟨i, c, e1, e2, lv⟩ | w
    · have e1' : (Z.φ ++ [q])[i]? = some q := e1
      have e2' : (Z.st ++ [ct])[i]? = some c := e2
      rcases app1_get e1' with e1' | ⟨e1', z1⟩
      · exact ok.fresh n (List.mem_of_getElem? e1')
      · rcases app1_get e2' with e2' | ⟨e2', z2⟩
        · have := (List.getElem?_eq_some_iff.mp e2').1
          rw [← ok.len] at this
          omega
        · subst z2
          exact hc.notup lv xs eq
    · obtain ⟨u, e⟩ := ok.fo q w
      rw [n] at e; cases e
theorem KOk.ownL {Qd : DK} {Q : VK} (k : KOk K Z Qd Q) (ok : Ok K Z) {xs : List V} {ds : List PyData} (r : Z.ImAll K xs ds) (w : Qd (.o Z.st.length) (Z.st ++ [.lst ds])) : ∀ p, Z.H p = none → Q (.ref p) (upd Z.H p (.lst xs)) := fun p n => by
  have l := ok.leOwn (o := .lst xs) (ct := .lst ds) n
  refine k (Z.own p (.lst xs) (.lst ds)) (.ref p) (.o Z.st.length) l (ok.own n ⟨xs, upd_same, ImAll.tr l.stay r⟩) ⟨p, .lst ds, rfl, ?_, ?_, trivial⟩ w
  · show (Z.φ ++ [p])[Z.st.length]? = _
    rw [← ok.len, List.getElem?_append_right (Nat.le_refl _)]
    simp
  · show (Z.st ++ [Ct.lst ds])[Z.st.length]? = _
    rw [List.getElem?_append_right (Nat.le_refl _)]
    simp
end
theorem de_lstO (h : DAs X E es t) : DEx X E (.List es pos) (wLstO t) := ⟨peI (pe_lst h.run) fun σ H Q ⟨Z, sl, Qd, Ed, h, ok, so, w, kq, kx⟩ =>
  ⟨Z, sl, _, Ed, h, ok, so, w, fun Z1 vs ss l1 ok1 r1 w1 => by
    simp only at w1
    split at w1
    · rename_i ds e
      have q := dsOf_ok r1 e
      exact ⟨by rw [q.length]; exact w1.1, (kq.le l1).ownL ok1 q w1.2⟩
    · exact w1.elim, kx⟩⟩
end
end Pz
set_option maxRecDepth 100000
namespace Pz
open PySem PySem.Spec PyProof.Rows L2 TL
variable [TabC]
section
variable {X : Cx} {E : WXs} {Z0 : Zs} {a b c e : Expr} {es : List Expr} {ta tb tc te : DE} {t : DA} {pos p : Pos} {x : Str} {K : Frag}
theorem rp1 {Z : Zs} {vs : List V} {s : Sl} (r : RpAll K Z vs [s]) : ∃ v, vs = [v] ∧ Rp K Z v s := by
  cases r with
  | cons p r => cases r; exact ⟨_, rfl, p⟩
theorem rp2 {Z : Zs} {vs : List V} {s t : Sl} (r : RpAll K Z vs [s, t]) : ∃ v u, vs = [v, u] ∧ Rp K Z v s ∧ Rp K Z u t := by
  cases r with
  | cons p r => obtain ⟨u, rfl, q⟩ := rp1 r; exact ⟨_, u, rfl, p, q⟩
def fLen : FA := fun ss st Q => match ss with
  | [s] => match vw st s with
    | some (.list ds) => Q (.d (.int ds.length)) st
    | some (.tuple ds) => Q (.d (.int ds.length)) st
    | some (.str z) => z.length ≤ sizeLine ∧ Q (.d (.int z.length)) st
    | _ => False
  | _ => False
theorem cd_len : CallD K (fun xs H Q => ∃ x n, xs = [x] ∧ LenV K x H n ∧ Q (.int n) H) fLen := by
  intro Z vs ss Qd Q ok ra w k
  unfold fLen at w
  split at w
  · obtain ⟨v, rfl, r⟩ := rp1 ra
    split at w
    · rename_i ds e
      obtain ⟨a, xs, rfl, h, q⟩ := r.list ok e
      exact ⟨_, ds.length, rfl, .inl ⟨xs, .of h, q.length.symm⟩, k.now ok (.int _) w⟩
    · rename_i ds e
      obtain ⟨a, xs, rfl, h, q⟩ := r.tuple e
      exact ⟨_, ds.length, rfl, .inr ⟨xs, h.sq, q.length.symm⟩, k.now ok (.int _) w⟩
    · rename_i z e
      obtain rfl := r.str e
      exact ⟨_, z.length, rfl, ⟨w.1, rfl⟩, k.now ok (.int _) w.2⟩
    · exact w.elim
  · exact w.elim
def fAbs : FA := fun ss st Q => match ss with
  | [s] => match vw st s with
    | some (.int i) => Q (.d (.int (if i < 0 then -i else i))) st
    | _ => False
  | _ => False
theorem cd_abs : CallD K (fun xs H Q => ∃ i, xs = [.int i] ∧ Q (.int (if i < 0 then -i else i)) H) fAbs := by
  intro Z vs ss Qd Q ok ra w k
  unfold fAbs at w
  split at w
  · obtain ⟨v, rfl, r⟩ := rp1 ra
    split at w
    · rename_i i e
      obtain rfl := r.int e
      exact ⟨i, rfl, k.now ok (.int _) w⟩
    · exact w.elim
  · exact w.elim
def fInt : FA := fun ss st Q => match ss with
  | [s] => match vw st s with
    | some (.int i) => Q (.d (.int i)) st
    | some (.bool b) => Q (.d (.int (if b then 1 else 0))) st
    | _ => False
  | _ => False
theorem cd_int : CallD K (fun xs H Q => (∃ i, xs = [.int i] ∧ Q (.int i) H) ∨ ∃ k, xs = [.bl k] ∧ Q (.int (if k then 1 else 0)) H) fInt := by
  intro Z vs ss Qd Q ok ra w k
  unfold fInt at w
  split at w
  · obtain ⟨v, rfl, r⟩ := rp1 ra
    split at w
    · rename_i i e
      obtain rfl := r.int e
      exact .inl ⟨i, rfl, k.now ok (.int _) w⟩
    · rename_i i e
      obtain rfl := r.bl e
      exact .inr ⟨i, rfl, k.now ok (.int _) w⟩
    · exact w.elim
  · exact w.elim
def asInts : List PyData → Option (List Int)
  | [] => some []
  | .int i :: r => match asInts r with
    | some ns => some (i :: ns)
    | none => none
  | .none :: _ => none
  | .bool _ :: _ => none
  | .str _ :: _ => none
  | .list _ :: _ => none
  | .tuple _ :: _ => none
  | .dict _ :: _ => none
theorem asInts_map : ∀ ns : List Int, asInts (ns.map PyData.int) = some ns
  | [] => rfl
  | n :: ns => by rw [List.map_cons, asInts, asInts_map ns]
theorem asInts_eq : ∀ {ds : List PyData} {ns : List Int}, asInts ds = some ns → ds = ns.map .int
  | [], ns, e => by simp only [asInts, Option.some.injEq] at e; subst e; rfl
  | .int i :: r, ns, e => by
    simp only [asInts] at e
    split at e
    · rename_i ns' e'
      simp only [Option.some.injEq] at e
      subst e
      rw [List.map_cons, ← asInts_eq e']
    · cases e
  | .none :: _, _, e => by simp [asInts] at e
  | .bool _ :: _, _, e => by simp [asInts] at e
  | .str _ :: _, _, e => by simp [asInts] at e
  | .list _ :: _, _, e => by simp [asInts] at e
  | .tuple _ :: _, _, e => by simp [asInts] at e
  | .dict _ :: _, _, e => by simp [asInts] at e
theorem im_ints {W : Addr → Prop} {H : Hp} : ∀ {vs : List V} {ns : List Int}, ImAll K W H vs (ns.map .int) → vs = ns.map V.int
  | vs, [], h => by cases h; rfl
  | vs, n :: ns, h => by
    cases h with
    | cons p r => cases p; rw [im_ints r]; rfl
theorem ints_im {W : Addr → Prop} {H : Hp} : ∀ (ns : List Int), ImAll K W H (ns.map V.int) (ns.map .int)
  | [] => .nil
  | n :: ns => .cons (.int n) (ints_im ns)
def lmax : List Int → Int
  | [] => 0
  | x :: r => r.foldl max x
def lmin : List Int → Int
  | [] => 0
  | x :: r => r.foldl min x
theorem foldl_max : ∀ (l : List Int) (x : Int), (l.foldl max x = x ∨ l.foldl max x ∈ l) ∧ x ≤ l.foldl max x ∧ ∀ y ∈ l, y ≤ l.foldl max x
  | [], x => by simp
  | y :: l, x => by
    obtain ⟨h1, h2, h3⟩ := foldl_max l (max x y)
    rw [List.foldl_cons]
    refine ⟨?_, by omega, fun z hz => ?_⟩
    · rcases h1 with h1 | h1
      · rw [h1]
        by_cases q : x ≤ y
        · right; rw [Int.max_eq_right q]; exact List.mem_cons_self
        · left; exact Int.max_eq_left (by omega)
      · exact .inr (List.mem_cons_of_mem _ h1)
    · rcases List.mem_cons.mp hz with e | hz
      · subst e; omega
      · exact h3 z hz
theorem lmax_mem {l : List Int} (h : 0 < l.length) : lmax l ∈ l ∧ ∀ y ∈ l, y ≤ lmax l := by
  cases l with
  | nil => simp at h
  | cons x r =>
    obtain ⟨h1, h2, h3⟩ := foldl_max r x
    refine ⟨?_, fun y hy => ?_⟩
    · show r.foldl max x ∈ _
      rcases h1 with h1 | h1
      · rw [h1]; exact List.mem_cons_self
      · exact List.mem_cons_of_mem _ h1
    · rcases List.mem_cons.mp hy with e | hy
      · subst e; exact h2
      · exact h3 y hy
def vwI (st : Sto) (s : Sl) : Option (List Int) := match vw st s with
  | some (.list ds) => asInts ds
  | _ => none
def fMax : FA := fun ss st Q => match ss with
  | [s] => match vwI st s with
    | some ns => 0 < ns.length ∧ Q (.d (.int (lmax ns))) st
    | none => False
  | [s, t] => match vw st s, vw st t with
    | some (.int i), some (.int j) => Q (.d (.int (max i j))) st
    | _, _ => False
  | _ => False
def fMin : FA := fun ss st Q => match ss with
  | [s] => match vwI st s with
    | some ns => 0 < ns.length ∧ Q (.d (.int (lmin ns))) st
    | none => False
  | [s, t] => match vw st s, vw st t with
    | some (.int i), some (.int j) => Q (.d (.int (min i j))) st
    | _, _ => False
  | _ => False
def fSum : FA := fun ss st Q => match ss with
  | [s] => match vwI st s with
    | some ns => Q (.d (.int ns.sum)) st
    | none => False
  | _ => False
def asBools : List PyData → Option (List Bool)
  | [] => some []
  | .bool i :: r => match asBools r with
    | some ns => some (i :: ns)
    | none => none
  | .none :: _ => none
  | .int _ :: _ => none
  | .str _ :: _ => none
  | .list _ :: _ => none
  | .tuple _ :: _ => none
  | .dict _ :: _ => none
def vwB (st : Sto) (s : Sl) : Option (List Bool) := match vw st s with
  | some (.list ds) => asBools ds
  | _ => none
def fAll : FA := fun ss st Q => match ss with
  | [s] => match vwB st s with
    | some ns => Q (.d (.bool (ns.all id))) st
    | none => False
  | _ => False
def fAny : FA := fun ss st Q => match ss with
  | [s] => match vwB st s with
    | some ns => Q (.d (.bool (ns.any id))) st
    | none => False
  | _ => False
def fList : FA := fun ss st Q => match ss with
  | [s] => match vw st s with
    | some (.list ds) => Q (.d (.list ds)) st
    | some (.tuple ds) => Q (.d (.list ds)) st
    | _ => False
  | _ => False
def fListO : FA := fun ss st Q => match ss with
  | [s] => match vw st s with
    | some (.list ds) => Q (.o st.length) (st ++ [.lst ds])
    | some (.tuple ds) => Q (.o st.length) (st ++ [.lst ds])
    | _ => False
  | _ => False
def fTuple : FA := fun ss st Q => match ss with
  | [s] => match vw st s with
    | some (.list ds) => Q (.d (.tuple ds)) st
    | some (.tuple ds) => Q (.d (.tuple ds)) st
    | _ => False
  | _ => False
def isort (ns : List Int) : List Int := ns.mergeSort fun a b => decide (a ≤ b)
theorem isort_perm (ns : List Int) : (isort ns).Perm ns := List.mergeSort_perm _ _
def fSorted : FA := fun ss st Q => match ss with
  | [s] => match vwI st s with
    | some ns => Q (.d (.list ((isort ns).map .int))) st
    | none => False
  | _ => False
theorem call_reprD (hA : X.A.guards = some []) (hu : X.A.units + 64 < cLine) : CallR X (.builtin "repr") (fun xs H Q => ∃ x d, xs = [x] ∧ Dp X.K H x d ∧ d.showable = true ∧ d.hasDict = false ∧ d.depth ≤ 60 ∧ d.shown.length ≤ sizeLine ∧ Q (.str d.shown) H) := by
  intro pins s σ H xs us Q I r h
  obtain ⟨x, d, rfl, hd, sh, hD, dp, sz, q⟩ := h
  obtain ⟨u, rfl, ru⟩ := vals1 r
  have fin : ∀ (h' : Heap) (t : Tok) (k : Nat), (∀ b o, s.heap.get? b = some o → h'.get? b = some o) → EP X pins σ Q (.str d.shown t) { s with heap := h', toks := k } := fun h' t k hk => ⟨.str d.shown, H, I.kept hk, ⟨_, rfl⟩, q⟩
  have fin0 : ∀ (t : Tok) (k : Nat), EP X pins σ Q (.str d.shown t) { s with toks := k } := fun t k => fin s.heap t k fun _ _ e => e
  cases hd with
  | non =>
    obtain rfl : u = Value.none := ru
    exact PySem.P.repr_of_none (fin0 _ _)
  | bl i =>
    obtain rfl : u = Value.bool i := ru
    exact PySem.P.repr_of_bool (fin0 _ _)
  | int i =>
    obtain ⟨t, rfl⟩ := ru
    exact PySem.P.repr_of_int (by simpa [PyData.showable] using sh) (fin0 _ _)
  | str i =>
    obtain ⟨t, rfl⟩ := ru
    exact PySem.P.repr_of_str (fin0 _ _) sz
  | lst h1 h2 =>
    obtain rfl := ru
    obtain ⟨as, rd⟩ := Dp.reads I _ _ _ (.lst h1 h2) rfl
    exact repr_of_reads' rd sh (PyData.noDict_hsm hD) hA (by omega) (fun _ _ e => e) (fun h' u tk hk => fin h' u tk hk) sz
  | tup h1 h2 =>
    obtain rfl := ru
    obtain ⟨as, rd⟩ := Dp.reads I _ _ _ (.tup h1 h2) rfl
    exact repr_of_reads' rd sh (PyData.noDict_hsm hD) hA (by omega) (fun _ _ e => e) (fun h' u tk hk => fin h' u tk hk) sz
def fRepr : FA := fun ss st Q => match ss with
  | [s] => match vw st s with
    | some d => d.showable = true ∧ d.hasDict = false ∧ d.depth ≤ 60 ∧ d.shown.length ≤ sizeLine ∧ Q (.d (.str d.shown)) st
    | none => False
  | _ => False
end
end Pz
set_option maxRecDepth 100000
namespace Pz
open PySem PySem.Spec PyProof.Rows L2 TL
variable [TabC]
section
variable {X : Cx} {E : WXs} {Z0 : Zs} {a b c e : Expr} {es : List Expr} {ta tb tc te : DE} {t : DA} {pos p : Pos} {x : Str} {K : Frag}
def oIx (s t : Sl) (st : Sto) (Q : DK) : Prop := match vw st s, vw st t with
  | some (.list ds), some (.int i) => match atI ds i with
    | some d => Q (.d d) st
    | none => False
  | some (.tuple ds), some (.int i) => match atI ds i with
    | some d => Q (.d d) st
    | none => False
  | some (.str z), some (.int i) => z.length ≤ sizeLine ∧ match atI (tl z) i with
    | some c => Q (.d (.str ⟨#[c]⟩)) st
    | none => False
  | _, _ => False
theorem im_at {W : Addr → Prop} {H : Hp} {xs : List V} {ds : List PyData} {i : Int} {d : PyData} (q : ImAll K W H xs ds) (e : atI ds i = some d) : ∃ v, atI xs i = some v ∧ Im K W H v d := by
  unfold atI at e ⊢
  rw [q.length]
  cases z : ixN ds.length i with
  | none => rw [z] at e; cases e
  | some j =>
    rw [z] at e
    exact q.get' e
theorem d2_ix : D2 K (rIx K) oIx := by
  intro Z v u s t Qd Q ok r1 r2 w k
  unfold oIx at w
  split at w
  · rename_i ds i e1 e2
    split at w
    · rename_i d ed
      obtain ⟨a, xs, rfl, h, q⟩ := r1.list ok e1
      obtain rfl := r2.int e2
      obtain ⟨v, ev, rv⟩ := im_at q ed
      exact .inl ⟨a, xs, i, v, rfl, rfl, .of h, ev, k.now ok rv w⟩
    · exact w.elim
  · rename_i ds i e1 e2
    split at w
    · rename_i d ed
      obtain ⟨a, xs, rfl, h, q⟩ := r1.tuple e1
      obtain rfl := r2.int e2
      obtain ⟨v, ev, rv⟩ := im_at q ed
      exact .inr (.inl ⟨a, xs, i, v, rfl, rfl, h.sq, ev, k.now ok rv w⟩)
    · exact w.elim
  · rename_i z i e1 e2
    obtain ⟨hz, w⟩ := w
    split at w
    · rename_i c ec
      obtain rfl := r1.str e1
      obtain rfl := r2.int e2
      exact .inr (.inr ⟨z, i, c, rfl, rfl, hz, ec, k.now ok (.str _) w⟩)
    · exact w.elim
  · exact w.elim
abbrev DO := DX → Sls → Sto → (Option Int → Sto → Prop) → Prop
structure DPo (X : Cx) (E : WXs) (e : Option Expr) (τ : DO) : Prop where
  run : PO X e fun σ H Q => ∃ (Z : Zs) (sl : Sls) (Qd : Option Int → Sto → Prop) (Ed : DX), Z.H = H ∧ Ok X.K Z ∧ SlOk X.K Z σ sl ∧ τ Ed sl Z.st Qd ∧ (∀ (Z' : Zs) (o : Option Int), Le Z Z' → Ok X.K Z' → Qd o Z'.st → Q o Z'.H) ∧ KXOk X.K Z Ed E
def wNoPart : DO := fun _ _ st Q => Q none st
def wPart (te : DE) : DO := fun Ed sl st Q => te Ed sl st fun s st => match vw st s with
  | some (.int i) => Q (some i) st
  | _ => False
theorem poI {e : Option Expr} {t t' : TO} (h : PO X e t) (i : ∀ σ H Q, t' σ H Q → t σ H Q) : PO X e t' := by
  obtain ⟨h⟩ := h
  constructor
  intros
  exact h _ _ _ _ _ (by assumption) (i _ _ _ (by assumption))
theorem dpo_none : DPo X E none wNoPart := ⟨poI po_none fun σ H Q ⟨Z, sl, Qd, Ed, h, ok, so, w, k, kx⟩ => by
  subst h
  exact k Z none (.refl ok) ok w⟩
theorem dpo_some (he : DEx X E e te) : DPo X E (some e) (wPart te) := ⟨poI (po_some he.run) fun σ H Q ⟨Z, sl, Qd, Ed, h, ok, so, w, k, kx⟩ =>
  ⟨Z, sl, _, Ed, h, ok, so, w, fun Z1 v s l1 ok1 r1 w1 => by
    simp only at w1
    split at w1
    · rename_i i e
      exact ⟨i, r1.int e, k Z1 _ l1 ok1 w1⟩
    · exact w1.elim, kx⟩⟩
def cutD (xs : List α) (lo hi : Option Int) : List α := (xs.drop (HT.sIx xs.length 0 lo)).take (HT.sIx xs.length xs.length hi - HT.sIx xs.length 0 lo)
def oSl (s : Sl) (lo hi : Option Int) (st : Sto) (Q : DK) : Prop := match s with
  | .f ns => Q (.d (.list ((cutD ns lo hi).map .int))) st
  | s => match vw st s with
    | some (.list ds) => Q (.d (.list (cutD ds lo hi))) st
    | some (.tuple ds) => Q (.d (.tuple (cutD ds lo hi))) st
    | some (.str z) => z.length ≤ sizeLine ∧ Q (.d (.str (cutS z lo hi))) st
    | _ => False
def rSl (K : Frag) : V → Option Int → Option Int → Hp → VK → Prop := fun x lo hi H Q => rSlL K x lo hi H Q ∨ rSlA K x lo hi H Q ∨ rSlS x lo hi H Q
theorem sl_any : SlR X (rSl X.K) := sl_list.or (sl_tupA.or sl_str)
theorem im_cut {W : Addr → Prop} {H : Hp} {xs : List V} {ds : List PyData} (q : ImAll K W H xs ds) (lo hi : Option Int) : ImAll K W H (cutV xs lo hi) (cutD ds lo hi) := by
  unfold cutV cutD
  rw [q.length]
  exact (q.drop _).take _
theorem cut_map (f : α → β) (xs : List α) (lo hi : Option Int) : cutD (xs.map f) lo hi = (cutD xs lo hi).map f := by
  unfold cutD
  rw [List.length_map, ← List.map_drop, ← List.map_take]
def wSl (te : DE) (tl th : DO) : DE := fun Ed sl st Q => te Ed sl st fun s st => tl Ed sl st fun lo st => th Ed sl st fun hi st => oSl s lo hi st Q
variable {lo hi : Option Expr} {tlo thi : DO} {p2 : Pos}
theorem oSl_ok {Z : Zs} {v : V} {s : Sl} {lo hi : Option Int} {Qd : DK} {Q : VK} (ok : Ok K Z) (r : Rp K Z v s) (w : oSl s lo hi Z.st Qd) (k : KOk K Z Qd Q) : rSl K v lo hi Z.H Q := by
  have gen : ∀ s', (∀ ns, s' ≠ .f ns) → Rp K Z v s' → oSl s' lo hi Z.st Qd → rSl K v lo hi Z.H Q := fun s' ne r w => by
    unfold oSl at w
    split at w
    · exact absurd rfl (ne _)
    · split at w
      · rename_i ds e1
        obtain ⟨a, xs, rfl, h, q⟩ := r.list ok e1
        exact .inl ⟨a, xs, rfl, .of h, k.newL ok (im_cut q lo hi) w⟩
      · rename_i ds e1
        obtain ⟨a, xs, rfl, h, q⟩ := r.tuple e1
        refine .inr (.inl ⟨a, xs, rfl, h.sq, fun z => ?_, fun _ => k.newT ok (im_cut q lo hi) w⟩)
        have e2 : cutD ds lo hi = ds := by
          unfold cutD
          rw [← q.length, z.1, z.2, List.drop_zero, Nat.sub_zero, q.length]
          exact List.take_length
        rw [e2] at w
        exact k.now ok (.tup h q) w
      · rename_i z e1
        obtain rfl := r.str e1
        exact .inr (.inr ⟨z, rfl, w.1, k.now ok (.str _) w.2⟩)
      · exact w.elim
  cases s with
  | f ns =>
    obtain ⟨a, rfl, h⟩ := r
    refine .inl ⟨a, ns.map V.int, rfl, h.sq, ?_⟩
    rw [show cutV (ns.map V.int) lo hi = (cutD ns lo hi).map V.int from cut_map V.int ns lo hi]
    exact k.newL ok (ints_im _) w
  | d x => exact gen (.d x) (fun _ z => nomatch z) r w
  | o h => exact gen (.o h) (fun _ z => nomatch z) r w
  | r u => exact gen (.r u) (fun _ z => nomatch z) r w
  | l a b c => exact gen (.l a b c) (fun _ z => nomatch z) r w
theorem de_slice (he : DEx X E e te) (hl : DPo X E lo tlo) (hh : DPo X E hi thi) : DEx X E (.Subscript e (.Slice lo hi none p2) pos) (wSl te tlo thi) :=
  ⟨peI (pe_slice sl_any he.run hl.run hh.run) fun σ H Q ⟨Z, sl, Qd, Ed, h, ok, so, w, k, kx⟩ =>
    ⟨Z, sl, _, Ed, h, ok, so, w, fun Z1 v s l1 ok1 r1 w1 =>
      ⟨Z1, sl, _, Ed, rfl, ok1, so.tr l1, w1, fun Z2 o l2 ok2 w2 =>
        ⟨Z2, sl, _, Ed, rfl, ok2, (so.tr l1).tr l2, w2, fun Z3 o' l3 ok3 w3 =>
          oSl_ok ok3 ((r1.tr l2).tr l3) w3 (k.le ((l1.trans l2).trans l3)), (kx.le l1).le l2⟩, kx.le l1⟩, kx⟩⟩
variable {A : DT} {B : DT} {rest : List Expr}
def wAnd (t u : DT) : DT := fun Ed sl st Q => t Ed sl st fun b st => if b = true then u Ed sl st Q else Q false st
def wOr (t u : DT) : DT := fun Ed sl st Q => t Ed sl st fun b st => if b = true then Q true st else u Ed sl st Q
def wNot (t : DT) : DT := fun Ed sl st Q => t Ed sl st fun b st => Q (!b) st
theorem DWs.dt {τ : DT} (h : DWs X E e τ) : DTs X E e τ := ⟨h.run.pt⟩
theorem dw_and1 (ha : DTs X E a A) : DWs X E (.BoolOp .And [a] pos) A := ⟨pw_and1 ha.run⟩
theorem dw_or1 (ha : DTs X E a A) : DWs X E (.BoolOp .Or [a] pos) A := ⟨pw_or1 ha.run⟩
theorem dw_and (ha : DTs X E a A) (hb : DWs X E (.BoolOp .And (b :: rest) pos) B) : DWs X E (.BoolOp .And (a :: b :: rest) pos) (wAnd A B) :=
  ⟨pwI (pw_and ha.run hb.run) fun σ H Q ⟨Z, sl, Qd, Ed, h, ok, so, w, k, kx⟩ => ⟨Z, sl, _, Ed, h, ok, so, w, fun Z1 b l1 ok1 w1 => by
    cases b with
    | true => exact ⟨Z1, sl, Qd, Ed, rfl, ok1, so.tr l1, w1, fun Z2 c l2 => k Z2 c (l1.trans l2), kx.le l1⟩
    | false => exact k Z1 false l1 ok1 w1, kx⟩⟩
theorem dw_or (ha : DTs X E a A) (hb : DWs X E (.BoolOp .Or (b :: rest) pos) B) : DWs X E (.BoolOp .Or (a :: b :: rest) pos) (wOr A B) :=
  ⟨pwI (pw_or ha.run hb.run) fun σ H Q ⟨Z, sl, Qd, Ed, h, ok, so, w, k, kx⟩ => ⟨Z, sl, _, Ed, h, ok, so, w, fun Z1 b l1 ok1 w1 => by
    cases b with
    | false => exact ⟨Z1, sl, Qd, Ed, rfl, ok1, so.tr l1, w1, fun Z2 c l2 => k Z2 c (l1.trans l2), kx.le l1⟩
    | true => exact k Z1 true l1 ok1 w1, kx⟩⟩
theorem dt_not (ha : DTs X E a A) : DTs X E (.UnaryOp .Not a pos) (wNot A) :=
  ⟨ptI (pt_not ha.run) fun σ H Q ⟨Z, sl, Qd, Ed, h, ok, so, w, k, kx⟩ => ⟨Z, sl, _, Ed, h, ok, so, w, fun Z1 b l1 ok1 w1 => k Z1 (!b) l1 ok1 w1, kx⟩⟩
def wAndV (ta tb : DE) : DE := fun Ed sl st Q => ta Ed sl st fun s st => match s with
  | .d (.bool b) => if b = true then tb Ed sl st Q else Q (.d (.bool false)) st
  | _ => False
def wOrV (ta tb : DE) : DE := fun Ed sl st Q => ta Ed sl st fun s st => match s with
  | .d (.bool b) => if b = true then Q (.d (.bool true)) st else tb Ed sl st Q
  | _ => False
def wNotV (ta : DE) : DE := fun Ed sl st Q => ta Ed sl st fun s st => match s with
  | .d (.bool b) => Q (.d (.bool (!b))) st
  | _ => False
theorem de_and1 (ha : DEx X E a ta) : DEx X E (.BoolOp .And [a] pos) ta := ⟨pe_one ha.run⟩
theorem de_or1 (ha : DEx X E a ta) : DEx X E (.BoolOp .Or [a] pos) ta := ⟨pe_one ha.run⟩
theorem de_and (ha : DEx X E a ta) (hb : DEx X E (.BoolOp .And (b :: rest) pos) tb) : DEx X E (.BoolOp .And (a :: b :: rest) pos) (wAndV ta tb) :=
  ⟨peI (pe_and ha.run hb.run) fun σ H Q ⟨Z, sl, Qd, Ed, h, ok, so, w, k, kx⟩ => ⟨Z, sl, _, Ed, h, ok, so, w, fun Z1 v s l1 ok1 r1 w1 => by
    simp only at w1
    split at w1
    · rename_i b
      cases r1
      refine ⟨b, rfl, ?_⟩
      cases b with
      | true => exact ⟨Z1, sl, Qd, Ed, rfl, ok1, so.tr l1, w1, k.le l1, kx.le l1⟩
      | false => exact (k.le l1).now ok1 (.bl false) w1
    · exact w1.elim, kx⟩⟩
theorem de_or (ha : DEx X E a ta) (hb : DEx X E (.BoolOp .Or (b :: rest) pos) tb) : DEx X E (.BoolOp .Or (a :: b :: rest) pos) (wOrV ta tb) :=
  ⟨peI (pe_or ha.run hb.run) fun σ H Q ⟨Z, sl, Qd, Ed, h, ok, so, w, k, kx⟩ => ⟨Z, sl, _, Ed, h, ok, so, w, fun Z1 v s l1 ok1 r1 w1 => by
    simp only at w1
    split at w1
    · rename_i b
      cases r1
      refine ⟨b, rfl, ?_⟩
      cases b with
      | false => exact ⟨Z1, sl, Qd, Ed, rfl, ok1, so.tr l1, w1, k.le l1, kx.le l1⟩
      | true => exact (k.le l1).now ok1 (.bl true) w1
    · exact w1.elim, kx⟩⟩
def wIfE (t : DT) (ta tb : DE) : DE := fun Ed sl st Q => t Ed sl st fun b st => if b = true then ta Ed sl st Q else tb Ed sl st Q
theorem de_if (hc : DTs X E c A) (ha : DEx X E a ta) (hb : DEx X E b tb) : DEx X E (.IfExp c a b pos) (wIfE A ta tb) :=
  ⟨peI (pe_ifExp hc.run ha.run hb.run) fun σ H Q ⟨Z, sl, Qd, Ed, h, ok, so, w, k, kx⟩ => ⟨Z, sl, _, Ed, h, ok, so, w, fun Z1 b l1 ok1 w1 => by
    cases b with
    | true => exact ⟨Z1, sl, Qd, Ed, rfl, ok1, so.tr l1, w1, k.le l1, kx.le l1⟩
    | false => exact ⟨Z1, sl, Qd, Ed, rfl, ok1, so.tr l1, w1, k.le l1, kx.le l1⟩, kx⟩⟩
def truD (st : Sto) (s : Sl) : Option Bool := match vw st s with
  | some .none => some false
  | some (.bool b) => some b
  | some (.int i) => some (i != 0)
  | some (.str z) => if z.length ≤ sizeLine then some ((z.length : Int) != 0) else none
  | some (.list ds) => some (!ds.isEmpty)
  | some (.tuple ds) => some (!ds.isEmpty)
  | _ => none
theorem im_empty {W : Addr → Prop} {H : Hp} {xs : List V} {ds : List PyData} (q : ImAll K W H xs ds) : xs.isEmpty = ds.isEmpty := by cases q <;> rfl
theorem truD_ok {Z : Zs} (ok : Ok K Z) {v : V} {s : Sl} {b : Bool} (r : Rp K Z v s) (e : truD Z.st s = some b) : TruV K v Z.H b := by
  unfold truD at e
  split at e
  · rename_i e1; obtain rfl := r.non e1; simp only [Option.some.injEq] at e; exact (show b = false from e.symm)
  · rename_i e1; obtain rfl := r.bl e1; simp only [Option.some.injEq] at e; exact (show b = _ from e.symm)
  · rename_i e1; obtain rfl := r.int e1; simp only [Option.some.injEq] at e; exact e.symm
  · rename_i z e1
    obtain rfl := r.str e1
    split at e
    · rename_i hz; simp only [Option.some.injEq] at e; exact ⟨hz, e.symm⟩
    · cases e
  · rename_i ds e1
    obtain ⟨a, xs, rfl, h, q⟩ := r.list ok e1
    simp only [Option.some.injEq] at e
    exact .inl ⟨xs, .of h, by rw [im_empty q]; exact e.symm⟩
  · rename_i ds e1
    obtain ⟨a, xs, rfl, h, q⟩ := r.tuple e1
    simp only [Option.some.injEq] at e
    exact .inr (.inl ⟨xs, h.sq, by rw [im_empty q]; exact e.symm⟩)
  · cases e
def wTru (te : DE) : DT := fun Ed sl st Q => te Ed sl st fun s st => match truD st s with
  | some b => Q b st
  | none => False
theorem dt_tru (ha : DEx X E a ta) (he : ∀ whole, isTrue a X.env whole = (do let v ← whole; standAt a.pos; holding [v] (truthy v)) := by intro _; rfl) : DTs X E a (wTru ta) :=
  ⟨ptI (pt_truth ha.run he) fun σ H Q ⟨Z, sl, Qd, Ed, h, ok, so, w, k, kx⟩ => ⟨Z, sl, _, Ed, h, ok, so, w, fun Z1 v s l1 ok1 r1 w1 => by
    simp only at w1
    split at w1
    · rename_i b e
      exact ⟨b, truD_ok ok1 r1 e, k Z1 b l1 ok1 w1⟩
    · exact w1.elim, kx⟩⟩
def wChain (f g : Sl → Sl → Sto → DK → Prop) (ta tb tc : DE) : DE := fun Ed sl st Q => ta Ed sl st fun x st => tb Ed sl st fun y st => f x y st fun z st => match z with
  | .d (.bool b) => if b = true then tc Ed sl st fun w st => g y w st Q else Q (.d (.bool false)) st
  | _ => False
variable {op op' : CmpOp} {r r' : R2} {f g : Sl → Sl → Sto → DK → Prop}
def wNeg (ta : DE) : DE := fun Ed sl st Q => ta Ed sl st fun s st => match vw st s with
  | some (.int i) => Q (.d (.int (-i))) st
  | _ => False
theorem de_neg (ha : DEx X E a ta) : DEx X E (.UnaryOp .USub a pos) (wNeg ta) :=
  ⟨peI (pe_un un_neg ha.run) fun σ H Q ⟨Z, sl, Qd, Ed, h, ok, so, w, k, kx⟩ => ⟨Z, sl, _, Ed, h, ok, so, w, fun Z1 v s l1 ok1 r1 w1 => by
    simp only at w1
    split at w1
    · rename_i i e
      obtain rfl := r1.int e
      exact ⟨i, rfl, (k.le l1).now ok1 (.int _) w1⟩
    · exact w1.elim, kx⟩⟩
end
end Pz
set_option maxRecDepth 100000
namespace Pz
open PySem PySem.Spec PyProof.Rows L2 TL
variable [TabC]
section
variable {X : Cx} {E : WXs} {Z0 : Zs} {a b c e : Expr} {es : List Expr} {ta tb tc te : DE} {t : DA} {pos p : Pos} {x : Str} {K : Frag} {st : Stmt} {rest body : List Stmt} {u v : DS}
def wNext : DS := fun D sl st => D.nx sl st
def wSeq (t u : DS) : DS := fun D sl st => t { D with nx := u D } sl st
theorem dss_nil : DSs X E Z0 [] wNext := ⟨pssI pss_nil fun D σ H ⟨Z, sl, Dd, h, l0, ok, so, w, en⟩ => by
  subst h
  exact en.nx Z sl σ l0 ⟨fun _ _ e _ _ => e, fun _ _ _ n _ => n⟩ ok so w⟩
theorem dss_cons (h1 : DSt X E Z0 st u) (h2 : DSs X E Z0 rest v) : DSs X E Z0 (st :: rest) (wSeq u v) :=
  ⟨pssI (pss_cons h1.run h2.run) fun D σ H ⟨Z, sl, Dd, h, l0, ok, so, w, en⟩ =>
    ⟨Z, sl, _, h, l0, ok, so, w, ⟨fun Z1 sl1 σ1 l1 k1 ok1 so1 w1 => ⟨Z1, sl1, Dd, rfl, l1, ok1, so1, w1, en.at k1⟩, en.rt, en.ex, en.bk, en.ct⟩⟩⟩
theorem dss_one (h1 : DSt X E Z0 st u) : DSs X E Z0 [st] u := ⟨pss_one h1.run⟩
def wBreak : DS := fun D sl st => D.bk sl st
def wCont : DS := fun D sl st => D.ct sl st
def wExpr (te : DE) : DS := fun D sl st => te D.ex sl st fun _ st => D.nx sl st
theorem ds_expr (he : DEx X E e te) (hs : swapsWith e none pos.line X.env = pure false := by rfl) : DSt X E Z0 (.Expr e pos) (wExpr te) :=
  ⟨psI (ps_expr he.run hs) fun D σ H ⟨Z, sl, Dd, h, l0, ok, so, w, en⟩ =>
    ⟨Z, sl, _, Dd.ex, h, ok, so, w, fun Z1 v s l1 ok1 r1 w1 => en.nx Z1 sl σ (l0.trans l1) l1.stay ok1 (so.tr l1) w1, en.ex.le l0⟩⟩
def wRet (te : DE) : DS := fun D sl st => te D.ex sl st D.rt
theorem ds_ret (he : DEx X E e te) : DSt X E Z0 (.Return (some e) pos) (wRet te) :=
  ⟨psI (ps_ret he.run) fun D σ H ⟨Z, sl, Dd, h, l0, ok, so, w, en⟩ =>
    ⟨Z, sl, _, Dd.ex, h, ok, so, w, fun Z1 v s l1 ok1 r1 w1 => en.rt Z1 v s (l0.trans l1) ok1 r1 w1, en.ex.le l0⟩⟩
def wRetN : DS := fun D _ st => D.rt (.d .none) st
def wIf (t : DT) (u v : DS) : DS := fun D sl st => t D.ex sl st fun b st => if b = true then u D sl st else v D sl st
theorem ds_if {A : DT} {s1 s2 : List Stmt} (hc : DTs X E c A) (ha : DSs X E Z0 s1 u) (hb : DSs X E Z0 s2 v) : DSt X E Z0 (.If c s1 s2 pos) (wIf A u v) :=
  ⟨psI (ps_if hc.run ha.run hb.run) fun D σ H ⟨Z, sl, Dd, h, l0, ok, so, w, en⟩ =>
    ⟨Z, sl, _, Dd.ex, h, ok, so, w, fun Z1 b l1 ok1 w1 => by
      cases b with
      | true => exact ⟨Z1, sl, Dd, rfl, l0.trans l1, ok1, so.tr l1, w1, en.at l1.stay⟩
      | false => exact ⟨Z1, sl, Dd, rfl, l0.trans l1, ok1, so.tr l1, w1, en.at l1.stay⟩, en.ex.le l0⟩⟩
def wNever : DS := fun _ _ _ => False
def wSet (i : Nat) (te : DE) : DS := fun D sl st => te D.ex sl st fun s st => D.nx (sl.set i (some s)) st
theorem ds_set (i : Nat) {pos' : Pos} (hN : X.N.Nodup) (he : DEx X E e te) (hi : X.N[i]? = some x := by rfl) (hx : Loc X.env.scope x := by first | exact Or.inl rfl | exact Or.inr rfl) (hs : swapsWith e (some (.Name x pos')) pos.line X.env = pure false := by rfl) (hf : X.fn x = true ∨ X.env.scope.names.lookup x = some .local := by first | exact .inl rfl | exact .inr rfl) :
    DSt X E Z0 (.Assign [.Name x pos'] e pos) (wSet i te) :=
  ⟨psI (ps_set hN hi hx he.run hs hf) fun D σ H ⟨Z, sl, Dd, h, l0, ok, so, w, en⟩ =>
    ⟨Z, sl, _, Dd.ex, h, ok, so, w, fun Z1 v s l1 ok1 r1 w1 => en.nx Z1 (sl.set i (some s)) _ (l0.trans l1) l1.stay ok1 ((so.tr l1).set i r1) w1, en.ex.le l0⟩⟩
def wAug (i : Nat) (f : Sl → Sl → Sto → DK → Prop) (te : DE) : DS := fun D sl st => match nthS sl i with
  | some s => te D.ex sl st fun t st => f s t st fun z st => D.nx (sl.set i (some z)) st
  | none => False
def wWhileN (t : DT) (u : DS) (D : DEnds) : Nat → Sls → Sto → Prop
  | 0 => fun _ _ => False
  | n + 1 => fun sl st => t D.ex sl st fun b st => if b = true then u { D with nx := wWhileN t u D n, ct := wWhileN t u D n, bk := D.nx } sl st else D.nx sl st
def wWhile (t : DT) (u : DS) : DS := fun D sl st => ∃ n, wWhileN t u D n sl st
abbrev DG := Sl → Sls → Sto → (Sls → Sto → Prop) → Prop
abbrev DGL := List PyData → Sls → Sto → (Sls → Sto → Prop) → Prop
structure DGt (X : Cx) (tg : Expr) (is : List Nat) (g : DG) : Prop where
  run : PG X tg fun v σ H Q => ∃ (Z : Zs) (sl : Sls) (s : Sl) (Qd : Sls → Sto → Prop), Z.H = H ∧ Ok X.K Z ∧ SlOk X.K Z σ sl ∧ Rp X.K Z v s ∧ g s sl Z.st Qd ∧ ∀ (σ' : L2.St) (sl' : Sls), σ'.length = σ.length → (∀ j : Nat, j ∉ is → σ'[j]? = σ[j]?) → SlOk X.K Z σ' sl' → Qd sl' Z.st → Q σ' Z.H
structure DGs (X : Cx) (ts : List Expr) (is : List Nat) (g : DGL) : Prop where
  run : PGs X ts fun vs σ H Q => ∃ (Z : Zs) (sl : Sls) (ds : List PyData) (Qd : Sls → Sto → Prop), Z.H = H ∧ Ok X.K Z ∧ SlOk X.K Z σ sl ∧ Z.ImAll X.K vs ds ∧ g ds sl Z.st Qd ∧ ∀ (σ' : L2.St) (sl' : Sls), σ'.length = σ.length → (∀ j : Nat, j ∉ is → σ'[j]? = σ[j]?) → SlOk X.K Z σ' sl' → Qd sl' Z.st → Q σ' Z.H
theorem pgI {tg : Expr} {t t' : TG} (h : PG X tg t) (i : ∀ v σ H Q, t' v σ H Q → t v σ H Q) : PG X tg t' := ⟨fun pins s σ H v u Q I r q => h.run pins s σ H v u Q I r (i v σ H Q q)⟩
theorem pgsI {tg : List Expr} {t t' : TGs} (h : PGs X tg t) (i : ∀ v σ H Q, t' v σ H Q → t v σ H Q) : PGs X tg t' := ⟨fun pins s σ H v u Q I r q => h.run pins s σ H v u Q I r (i v σ H Q q)⟩
def gNm (i : Nat) : DG := fun s sl st Q => Q (sl.set i (some s)) st
theorem dg_name (i : Nat) (hN : X.N.Nodup) (hi : X.N[i]? = some x := by rfl) (hx : Loc X.env.scope x := by first | exact Or.inl rfl | exact Or.inr rfl) (hf : X.fn x = true ∨ X.env.scope.names.lookup x = some .local := by first | exact .inl rfl | exact .inr rfl) : DGt X (.Name x pos) [i] (gNm i) :=
  ⟨pgI (pg_name hN hi hx hf) fun v σ H Q ⟨Z, sl, s, Qd, h, ok, so, r, w, k⟩ => by
    subst h
    exact k _ _ (List.length_set) (fun j hj => List.getElem?_set_ne (by simpa using fun z => hj (by simp [z]))) (so.set i r) w⟩
def gNl : DGL := fun ds sl st Q => match ds with
  | [] => Q sl st
  | _ => False
def gCn (g : DG) (gs : DGL) : DGL := fun ds sl st Q => match ds with
  | d :: ds => g (.d d) sl st fun sl st => gs ds sl st Q
  | [] => False
theorem dgs_nil : DGs X [] [] gNl := ⟨pgsI pgs_nil fun vs σ H Q ⟨Z, sl, ds, Qd, h, ok, so, r, w, k⟩ => by
  subst h
  unfold gNl at w
  split at w
  · cases r
    exact ⟨rfl, k σ sl rfl (fun _ _ => rfl) so w⟩
  · exact w.elim⟩
theorem dgs_cons {e : Expr} {es : List Expr} {is js : List Nat} {g : DG} {gs : DGL} (h1 : DGt X e is g) (h2 : DGs X es js gs) (hs : (assignEach (e :: es) X.env).map (·.2) = assign e X.env :: (assignEach es X.env).map (·.2) := by rfl) : DGs X (e :: es) (is ++ js) (gCn g gs) :=
  ⟨pgsI (pgs_cons h1.run h2.run hs) fun vs σ H Q ⟨Z, sl, ds, Qd, h, ok, so, r, w, k⟩ => by
    subst h
    unfold gCn at w
    split at w
    · rename_i d ds
      cases r with
      | cons p r =>
        refine ⟨_, _, rfl, Z, sl, .d d, _, rfl, ok, so, p, w, fun σ1 sl1 e1 f1 so1 w1 => ?_⟩
        refine ⟨Z, sl1, ds, Qd, rfl, ok, so1, r, w1, fun σ2 sl2 e2 f2 so2 w2 => k σ2 sl2 (e2.trans e1) (fun j hj => ?_) so2 w2⟩
        rw [f2 j fun z => hj (List.mem_append_right _ z), f1 j fun z => hj (List.mem_append_left _ z)]
    · exact w.elim⟩
def gTp (n : Nat) (gs : DGL) : DG := fun s sl st Q => match vw st s with
  | some (.tuple ds) => ds.length = n ∧ gs ds sl st Q
  | _ => False
theorem dg_tup {es : List Expr} {is : List Nat} {gs : DGL} {kk n : Nat} (hc : X.calm = true) (h : DGs X es is gs) (hn : (assignEach es X.env).length = n := by rfl) (hst : (assignEach es X.env).findIdx? (·.1) = none := by rfl) : DGt X (.Tuple es kk pos) is (gTp n gs) :=
  ⟨pgI (pg_tup hc h.run hn hst) fun v σ H Q ⟨Z, sl, s, Qd, h, ok, so, r, w, k⟩ => by
    subst h
    unfold gTp at w
    split at w
    · rename_i ds e1
      obtain ⟨a, xs, rfl, h, q⟩ := r.tuple e1
      exact ⟨a, xs, rfl, h.sq, q.length.trans w.1, Z, sl, ds, Qd, rfl, ok, so, q, w.2, k⟩
    · exact w.elim⟩
def wAsg (te : DE) (g : DG) : DS := fun D sl st => te D.ex sl st fun s st => g s sl st D.nx
theorem ds_asg {tg : Expr} {is : List Nat} {g : DG} (he : DEx X E e te) (hg : DGt X tg is g) (hs : swapsWithSole [tg] e pos.line X.env = pure false := by rfl) (hw : swappedStores [tg] e X.env = pure none := by rfl)
    (h1 : (assignEach [tg] X.env).map (·.2) = [assign tg X.env] := by rfl) : DSt X E Z0 (.Assign [tg] e pos) (wAsg te g) :=
  ⟨psI (ps_asg he.run hg.run hs hw h1) fun D σ H ⟨Z, sl, Dd, h, l0, ok, so, w, en⟩ =>
    ⟨Z, sl, _, Dd.ex, h, ok, so, w, fun Z1 v s l1 ok1 r1 w1 => ⟨Z1, sl, s, _, rfl, ok1, so.tr l1, r1, w1, fun σ' sl' _ _ so' w' => en.nx Z1 sl' σ' (l0.trans l1) l1.stay ok1 so' w'⟩, en.ex.le l0⟩⟩
structure ItD (K : Frag) (J : It) (Z1 : Zs) (ds : List PyData) : Prop where
  go : ∀ Z, Kp Z1 Z → Ok K Z → ∀ i, i < ds.length → J.go i Z.H
  stop : ∀ Z, Kp Z1 Z → Ok K Z → J.stop ds.length Z.H
  yld : ∀ Z, Kp Z1 Z → Ok K Z → ∀ (i : Nat) v H' d, ds[i]? = some d → J.yld i Z.H v H' → ∃ Z', Le Z Z' ∧ Ok K Z' ∧ Z'.H = H' ∧ Z'.st = Z.st ∧ Z'.Im K v d
abbrev DI := DX → Sls → Sto → (List PyData → Sto → Prop) → Prop
def upI (K : Frag) (E : WXs) (ω : DI) : TI := fun σ H R => ∃ (Z : Zs) (sl : Sls) (Rd : List PyData → Sto → Prop) (Ed : DX), Z.H = H ∧ Ok K Z ∧ SlOk K Z σ sl ∧ ω Ed sl Z.st Rd ∧ (∀ (Z' : Zs) (J : It) (ds : List PyData), Le Z Z' → Ok K Z' → ItD K J Z' ds → Rd ds Z'.st → R J Z'.H) ∧ KXOk K Z Ed E
structure DIt (X : Cx) (E : WXs) (tg iter : Expr) (ω : DI) : Prop where
  run : PI X tg iter (upI X.K E ω)
theorem piI {tg iter : Expr} {t t' : TI} (h : PI X tg iter t) (i : ∀ σ H R, t' σ H R → t σ H R) : PI X tg iter t' := ⟨fun pins s σ H R I q => h.run pins s σ H R I (i σ H R q)⟩
def wForL (g : DG) (u : DS) (D : DEnds) : List PyData → Sls → Sto → Prop
  | [] => D.nx
  | d :: ds => fun sl st => g (.d d) sl st fun sl st => u { D with nx := wForL g u D ds, ct := wForL g u D ds, bk := D.nx } sl st
def wFor (ω : DI) (g : DG) (u : DS) : DS := fun D sl st => ω D.ex sl st fun ds st => wForL g u D ds sl st
theorem ds_for {tg iter : Expr} {is : List Nat} {ω : DI} {g : DG} (hp : PassesOwn (model X.prog X.w) X.A X.env X.xe) (hc : X.calm = true) (hi : DIt X E tg iter ω) (hg : DGt X tg is g) (hb : DSs X E Z0 body u)
    (hs : ∀ x, foldedSetIterable iter X.env x = pure x := by intro _; rfl) : DSt X E Z0 (.For tg iter body [] pos) (wFor ω g u) :=
  ⟨psI (ps_for hp hc hi.run hg.run hb.run hs) fun D σ H ⟨Z, sl, Dd, h, l0, ok, so, w, en⟩ => by
    refine ⟨Z, sl, _, Dd.ex, h, ok, so, w, fun Z1 J ds l1 ok1 it w1 => ?_, en.ex.le l0⟩
    refine ⟨fun i m σ H => m = ds.length - i ∧ i ≤ ds.length ∧ ∃ (Z2 : Zs) (sl2 : Sls), Z2.H = H ∧ Le Z0 Z2 ∧ Kp Z1 Z2 ∧ Ok X.K Z2 ∧ SlOk X.K Z2 σ sl2 ∧ wForL g u Dd (ds.drop i) sl2 Z2.st,
      ⟨ds.length, by simp, Nat.zero_le _, Z1, sl, rfl, l0.trans l1, ⟨fun _ _ e _ _ => e, fun _ _ _ n _ => n⟩, ok1, so.tr l1, w1⟩, ?_⟩
    rintro i m σ2 H2 ⟨rfl, hi, Z2, sl2, rfl, l2, k2, ok2, so2, w2⟩
    have kz := l1.stay.trans k2
    by_cases hlt : i < ds.length
    · rw [List.drop_eq_getElem_cons hlt] at w2
      refine .inr ⟨it.go Z2 k2 ok2 i hlt, fun σ' H' => ∃ (Z3 : Zs) (sl3 : Sls), Z3.H = H' ∧ Le Z0 Z3 ∧ Kp Z1 Z3 ∧ Ok X.K Z3 ∧ SlOk X.K Z3 σ' sl3 ∧ wForL g u Dd (ds.drop (i + 1)) sl3 Z3.st,
        fun σ' H' z => ⟨ds.length - (i + 1), by omega, rfl, hlt, z⟩, fun v H' y => ?_⟩
      obtain ⟨Z3, l3, ok3, rfl, est, rv⟩ := it.yld Z2 k2 ok2 i v H' _ (List.getElem?_eq_getElem hlt) y
      rw [← est] at w2
      refine ⟨Z3, sl2, .d ds[i], _, rfl, ok3, so2.tr l3, rv, w2, fun σ4 sl4 _ _ so4 w4 => ?_⟩
      have kw := k2.trans l3.stay
      have kv := kz.trans l3.stay
      exact ⟨Z3, sl4, _, rfl, l2.trans l3, ok3, so4, w4, ⟨fun Z5 sl5 σ5 l5 k5 ok5 so5 w5 => ⟨Z5, sl5, rfl, l5, kw.trans k5, ok5, so5, w5⟩, en.rt, en.ex.at kv, fun Z5 sl5 σ5 l5 k5 => en.nx Z5 sl5 σ5 l5 (kv.trans k5), fun Z5 sl5 σ5 l5 k5 ok5 so5 w5 => ⟨Z5, sl5, rfl, l5, kw.trans k5, ok5, so5, w5⟩⟩⟩
    · have e : i = ds.length := by omega
      subst e
      rw [List.drop_length] at w2
      exact .inl ⟨it.stop Z2 k2 ok2, en.nx Z2 sl2 σ2 l2 kz ok2 so2 w2⟩⟩
theorem it_list {tg iter : Expr} {pins : List (Addr × Obj)} {σ : L2.St} {H : Hp} {s : Shared} {R : It → Hp → Prop} {a : Addr} {xs : List V} (I : L2.Inv X pins σ H s) (h : SqL X.K H a xs) (q : R (Itl X.K a) H) : wpAny (model X.prog X.w) X.A (pyIter (.ref a)) (PIE X pins σ tg R) X.xe s := by
  obtain ⟨its, rv, p, hz⟩ := I.list h
  exact wpAny_pyIter_list p.isList (pi_one (tk := s.toks) I _ (turn_list a _) ⟨_, Heap.get?_push_size _ rfl, rfl, rfl⟩ q)
theorem it_tup {tg iter : Expr} {pins : List (Addr × Obj)} {σ : L2.St} {H : Hp} {s : Shared} {R : It → Hp → Prop} {a : Addr} {xs : List V} (I : L2.Inv X pins σ H s) (h : SqT X.K H a xs) (q : R (Itt X.K a) H) : wpAny (model X.prog X.w) X.A (pyIter (.ref a)) (PIE X pins σ tg R) X.xe s := by
  obtain ⟨its, rv, p, hz⟩ := I.tuple h
  exact wpAny_pyIter_tuple (show s.heap.IsTuple a its.toArray from p) (pi_one (tk := s.toks) I _ (turn_tuple a _) ⟨_, Heap.get?_push_size _ rfl, rfl, rfl⟩ q)
theorem it_str {tg iter : Expr} {pins : List (Addr × Obj)} {σ : L2.St} {H : Hp} {s : Shared} {R : It → Hp → Prop} {z : Str} {tk : Tok} (I : L2.Inv X pins σ H s) (q : R (Its z) H) : wpAny (model X.prog X.w) X.A (pyIter (.str z tk)) (PIE X pins σ tg R) X.xe s := by
  cases ha : z.cps.all (· < 128)
  · exact wpAny_pyIter_wide ha (pi_one (tk := s.toks) I _ (turn_str _ z tk "str_iterator" (.inr rfl)) ⟨_, Heap.get?_push_size _ rfl, rfl, rfl⟩ q)
  · exact wpAny_pyIter_ascii ha (pi_one (tk := s.toks) I _ (turn_str _ z tk "str_ascii_iterator" (.inl rfl)) ⟨_, Heap.get?_push_size _ rfl, rfl, rfl⟩ q)
def signs (z : Str) : List PyData := (tl z).map fun c => .str ⟨#[c]⟩
def wItE (te : DE) : DI := fun Ed sl st Q => te Ed sl st fun s st => match s with
  | .d (.list ds) => Q ds st
  | .d (.tuple ds) => Q ds st
  | .d (.str z) => Q (signs z) st
  | _ => False
theorem itd_list {Z1 : Zs} {a : Addr} {xs : List V} {ds : List PyData} (h : Z1.H a = some (.lst xs)) (n : ¬ Z1.W a) (r : Z1.ImAll K xs ds) : ItD K (Itl K a) Z1 ds where
  go := fun Z k ok i hi => ⟨xs, xs[i]'(by rw [r.length]; exact hi), .of (k.f _ _ h n), List.getElem?_eq_getElem _⟩
  stop := fun Z k ok => ⟨xs, .of (k.f _ _ h n), by rw [r.length]; exact Nat.le_refl _⟩
  yld := fun Z k ok i v H' d e y => by
    obtain ⟨rfl, y⟩ := y
    obtain ⟨v', e', r'⟩ := r.get' e
    have := (y xs (.of (k.f _ _ h n))).symm.trans e'
    cases this
    exact ⟨Z, .refl ok, ok, rfl, rfl, Im.tr k r'⟩
theorem itd_tup {Z1 : Zs} {a : Addr} {xs : List V} {ds : List PyData} (h : ImT K Z1.W Z1.H a xs) (r : Z1.ImAll K xs ds) : ItD K (Itt K a) Z1 ds where
  go := fun Z k ok i hi => ⟨xs, xs[i]'(by rw [r.length]; exact hi), (h.tr k).sq, List.getElem?_eq_getElem _⟩
  stop := fun Z k ok => ⟨xs, (h.tr k).sq, by rw [r.length]; exact Nat.le_refl _⟩
  yld := fun Z k ok i v H' d e y => by
    obtain ⟨rfl, y⟩ := y
    obtain ⟨v', e', r'⟩ := r.get' e
    have := (y xs (h.tr k).sq).symm.trans e'
    cases this
    exact ⟨Z, .refl ok, ok, rfl, rfl, Im.tr k r'⟩
theorem itd_str {Z1 : Zs} (z : Str) : ItD K (Its z) Z1 (signs z) where
  go := fun Z k ok i hi => by
    have : i < z.cps.size := by simpa [signs, tl] using hi
    exact this
  stop := fun Z k ok => by
    show z.cps.size ≤ (signs z).length
    simp [signs, tl]
  yld := fun Z k ok i v H' d e y => by
    obtain ⟨rfl, c, ec, rfl⟩ := y
    simp only [signs, List.getElem?_map, tl, Array.getElem?_toList, ec, Option.map_some, Option.some.injEq] at e
    subst e
    exact ⟨Z, .refl ok, ok, rfl, rfl, .str _⟩
theorem di_e {tg : Expr} (he : DEx X E e te) : DIt X E tg e (wItE te) :=
  ⟨⟨fun pins s σ H R I ⟨Z, sl, Rd, Ed, h, ok, so, w, k, kx⟩ => thn (he.run.run pins s σ H (fun v H1 => (∃ a xs, v = .ref a ∧ SqL X.K H1 a xs ∧ R (Itl X.K a) H1) ∨ (∃ a xs, v = .ref a ∧ SqT X.K H1 a xs ∧ R (Itt X.K a) H1) ∨ ∃ z, v = .str z ∧ R (Its z) H1) I ⟨Z, sl, _, Ed, h, ok, so, w, fun Z1 v s l1 ok1 r1 w1 => by
      simp only at w1
      split at w1
      · cases r1 with
        | lst h n r => exact .inl ⟨_, _, rfl, .of h, k Z1 _ _ l1 ok1 (itd_list h n r) w1⟩
      · cases r1 with
        | tup h r => exact .inr (.inl ⟨_, _, rfl, h.sq, k Z1 _ _ l1 ok1 (itd_tup h r) w1⟩)
      · rename_i z
        cases r1
        exact .inr (.inr ⟨z, rfl, k Z1 _ _ l1 ok1 (itd_str z) w1⟩)
      · exact w1.elim, kx⟩) fun v s1 ⟨y, H1, I1, r1, q1⟩ => by
    rcases q1 with ⟨a, xs, rfl, h1, q⟩ | ⟨a, xs, rfl, h1, q⟩ | ⟨z, rfl, q⟩
    · cases r1
      exact it_list (iter := e) I1 h1 q
    · cases r1
      exact it_tup (iter := e) I1 h1 q
    · obtain ⟨tk, rfl⟩ := r1
      exact it_str (iter := e) I1 q⟩⟩
def rng (lo : Int) (n : Nat) : List PyData := (List.range n).map fun i => .int (lo + (i : Nat))
theorem itd_rng {Z1 : Zs} (lo : Int) (n : Nat) : ItD K (Itr lo n) Z1 (rng lo n) where
  go := fun Z k ok i hi => by
    show i < n
    simpa [rng] using hi
  stop := fun Z k ok => by
    show n ≤ _
    simp [rng]
  yld := fun Z k ok i v H' d e y => by
    obtain ⟨rfl, rfl⟩ := y
    have hi : i < n := by
      have := (List.getElem?_eq_some_iff.mp e).1
      simpa [rng] using this
    simp only [rng, List.getElem?_map, List.getElem?_range hi, Option.map_some, Option.some.injEq] at e
    subst e
    exact ⟨Z, .refl ok, ok, rfl, rfl, .int _⟩
def wRng1 (t : DA) : DI := fun Ed sl st Q => t Ed sl st fun ss st => match ss with
  | [s] => match vw st s with
    | some (.int j) => -(2 ^ 62) ≤ j ∧ j < 2 ^ 62 ∧ Q (rng 0 j.toNat) st
    | _ => False
  | _ => False
theorem di_rng1 {tg : Expr} (hg : Gl X "range") (hm : X.mg "range" = none) (ha : DAs X E [a] t) (hs : starEach [a] X.env = [(false, eval a X.env)] := by rfl) : DIt X E tg (.Call (.Name "range" p) [a] [] pos) (wRng1 t) :=
  ⟨piI (pi_range1 hg hm ha.run hs) fun σ H R ⟨Z, sl, Rd, Ed, h, ok, so, w, k, kx⟩ => ⟨Z, sl, _, Ed, h, ok, so, w, fun Z1 vs ss l1 ok1 r1 w1 => by
    simp only at w1
    split at w1
    · obtain ⟨v, rfl, rv⟩ := rp1 r1
      split at w1
      · rename_i j ej
        obtain rfl := rv.int ej
        exact ⟨j, rfl, w1.1, w1.2.1, k Z1 _ _ l1 ok1 (itd_rng 0 j.toNat) w1.2.2⟩
      · exact w1.elim
    · exact w1.elim, kx⟩⟩
def wRng2 (t : DA) : DI := fun Ed sl st Q => t Ed sl st fun ss st => match ss with
  | [s, s'] => match vw st s, vw st s' with
    | some (.int i), some (.int j) => (-(2 ^ 62) ≤ i ∧ i < 2 ^ 62 ∧ -(2 ^ 62) ≤ j ∧ j < 2 ^ 62) ∧ Q (rng i (j - i).toNat) st
    | _, _ => False
  | _ => False
end
end Pz
set_option maxRecDepth 100000
namespace Pz
open PySem PySem.Spec PyProof.Rows L2 TL
variable [TabC]
def wipeS (sl : Sls) : List Nat → Sls
  | [] => sl
  | v :: vs => (wipeS sl vs).set v none
theorem wipe_get (σ : L2.St) : ∀ (vs : List Nat) (j : Nat), (wipe σ vs)[j]? = if j ∈ vs ∧ j < σ.length then some none else σ[j]?
  | [], j => by simp [wipe]
  | v :: vs, j => by
    unfold wipe
    by_cases e : v = j
    · subst e
      by_cases hl : v < σ.length
      · rw [List.getElem?_set_self (by rw [wipe_length]; exact hl), if_pos ⟨by simp, hl⟩]
      · rw [if_neg (fun h => hl h.2), List.getElem?_eq_none (by rw [List.length_set, wipe_length]; omega), List.getElem?_eq_none (by omega)]
    · rw [List.getElem?_set_ne e, wipe_get σ vs j]
      have : j ∈ v :: vs ↔ j ∈ vs := by simp [Ne.symm e]
      simp only [this]
theorem wipe_same {σ τ : L2.St} {vs : List Nat} (hl : τ.length = σ.length) (h : ∀ j, j ∉ vs → τ[j]? = (wipe σ vs)[j]?) : wipe τ vs = wipe σ vs := by
  refine List.ext_getElem? fun j => ?_
  rw [wipe_get τ, wipe_get σ, hl]
  by_cases hj : j ∈ vs
  · by_cases hlt : j < σ.length
    · rw [if_pos ⟨hj, hlt⟩, if_pos ⟨hj, hlt⟩]
    · rw [if_neg (fun h => hlt h.2), if_neg (fun h => hlt h.2), List.getElem?_eq_none (by omega), List.getElem?_eq_none (by omega)]
  · rw [if_neg (fun h => hj h.1), if_neg (fun h => hj h.1), h j hj, wipe_get, if_neg (fun h => hj h.1)]
theorem SlOk.wipe {K : Frag} {Z : Zs} {σ : L2.St} {sl : Sls} (so : SlOk K Z σ sl) : ∀ vs, SlOk K Z (wipe σ vs) (wipeS sl vs)
  | [] => so
  | v :: vs => by
    have ih := SlOk.wipe so vs
    unfold wipeS L2.wipe
    refine ⟨by rw [List.length_set, List.length_set]; exact ih.len, fun i s e => ?_⟩
    by_cases hi : v = i
    · subst hi
      rcases Nat.lt_or_ge v (wipeS sl vs).length with q | q
      · rw [List.getElem?_set_self q] at e; cases e
      · rw [List.getElem?_eq_none (by simpa using q)] at e; cases e
    · rw [List.getElem?_set_ne hi] at e
      obtain ⟨u, q, r⟩ := ih.has i s e
      exact ⟨u, by rw [List.getElem?_set_ne hi]; exact q, r⟩
structure DPt (X : Cx) (E : WXs) (ifs : List Expr) (τ : DT) : Prop where
  run : PTs X ifs (upT X.K E τ)
def wYes : DT := fun _ _ st Q => Q true st
section
variable {X : Cx} {E : WXs} {Z0 : Zs} {a b c e : Expr} {es : List Expr} {ta tb tc te : DE} {t : DA} {pos p : Pos} {x : Str} {K : Frag} {A : DT}
theorem dpt_nil : DPt X E [] wYes := ⟨⟨fun pins s σ H Q I ⟨Z, sl, Qd, Ed, h, ok, so, w, k, kx⟩ => pts_nil.run pins s σ H Q I (by
  subst h
  exact k Z true (.refl ok) ok w)⟩⟩
theorem dpt_one (h : DTs X E c A) : DPt X E [c] A := ⟨pts_one h.run⟩
def wLcL (g : DG) (tt : DT) (te : DE) (sl : Sls) : List PyData → List PyData → Sto → (List PyData → Sto → Prop) → Prop
  | [], acc => fun st Q => Q acc st
  | d :: ds, acc => fun st Q => g (.d d) sl st fun sl2 st => tt (fun _ _ _ _ => False) sl2 st fun b st => if b = true then te (fun _ _ _ _ => False) sl2 st fun s st => match s with
      | .d y => acc.length < sizeLine ∧ wLcL g tt te sl ds (acc ++ [y]) st Q
      | _ => False
    else wLcL g tt te sl ds acc st Q
def wLc (ω : DI) (g : DG) (tt : DT) (te : DE) (vs : List Nat) : DE := fun Ed sl st Q => ω Ed sl st fun ds st => wLcL g tt te (wipeS sl vs) ds [] st fun acc st => Q (.d (.list acc)) st
def wLcO (ω : DI) (g : DG) (tt : DT) (te : DE) (vs : List Nat) : DE := fun Ed sl st Q => ω Ed sl st fun ds st => wLcL g tt te (wipeS sl vs) ds [] st fun acc st => Q (.o st.length) (st ++ [.lst acc])
abbrev Zs.wo (Z : Zs) (F : Addr → Prop) : Zs := ⟨Z.φ, Z.st, Z.H, F⟩
theorem Le.wo {Z Z' : Zs} (l : Le Z Z') (F : Addr → Prop) : Le (Z.wo F) (Z'.wo F) := ⟨l.pre, l.len, l.liv, l.frm, rfl, l.dom⟩
theorem rp_stay {Z Z' : Zs} (s : Stay Z.W Z'.W Z.H Z'.H) (eφ : Z'.φ = Z.φ) (es : Z'.st = Z.st) {v : V} {y : Sl} (r : Rp K Z v y) : Rp K Z' v y := by
  cases y with
  | d x => exact Im.tr s r
  | o h => obtain ⟨a, c, q1, q2, q3, q4⟩ := r; exact ⟨a, c, q1, by rw [eφ]; exact q2, by rw [es]; exact q3, q4⟩
  | r u => exact r
  | l _ _ _ => exact ⟨r.1, r.2.trans s⟩
  | f ns => obtain ⟨a, q1, q2⟩ := r; exact ⟨a, q1, q2.tr s⟩
theorem SlOk.stay {Z Z' : Zs} (s : Stay Z.W Z'.W Z.H Z'.H) (eφ : Z'.φ = Z.φ) (es : Z'.st = Z.st) {σ : L2.St} {sl : Sls} (so : SlOk K Z σ sl) : SlOk K Z' σ sl :=
  ⟨so.len, fun i y e => let ⟨v, q, r⟩ := so.has i y e; ⟨v, q, rp_stay s eφ es r⟩⟩
theorem Ok.stay {Z Z' : Zs} (s : Stay Z.W Z'.W Z.H Z'.H) (eφ : Z'.φ = Z.φ) (es : Z'.st = Z.st) (hH : ∀ a ∈ Z.φ, ∀ o, Z.H a = some o → Z'.H a = some o) (fo : ∀ a, Z'.F a → ∃ o, Z'.H a = some o) (fd : ∀ a ∈ Z.φ, ¬ Z'.F a) (tb : TabOk Z'.W Z'.H) (ok : Ok K Z) : Ok K Z' where
  len := by rw [eφ, es]; exact ok.len
  nd := by rw [eφ]; exact ok.nd
  ct := fun h a c e1 e2 => by
    rw [eφ] at e1
    rw [es] at e2
    exact ctok_st s (fun r => rp_stay s eφ es r) (fun o e _ => hH a (List.mem_of_getElem? e1) o e) (fun o e => ⟨o, hH a (List.mem_of_getElem? e1) o e⟩) (ok.ct h a c e1 e2)
  fo := fo
  fd := by rw [eφ]; exact fd
  tb := tb
theorem mk_new {Z : Zs} {D : Addr} {o : HO} (ok : Ok K Z) (n : Z.H D = none) : Stay Z.W (Zs.mk Z.φ Z.st (upd Z.H D o) fun a => Z.F a ∨ a = D).W Z.H (upd Z.H D o) :=
  ⟨fun b u e _ _ => upd_keep n e, fun b u e nw _ w => by
    rcases w with w | w | w
    · exact nw (.inl w)
    · exact nw (.inr w)
    · subst w; rw [n] at e; cases e⟩
theorem mk_upd {Z : Zs} {D : Addr} {o : HO} (hD : Z.W D) : Stay Z.W (Zs.mk Z.φ Z.st (upd Z.H D o) Z.F).W Z.H (upd Z.H D o) :=
  ⟨fun b u e nw _ => by
    rw [upd_ne (fun z => nw (by subst z; exact hD))]
    exact e, fun b u e nw _ => nw⟩
variable {elt tg iter : Expr} {ifs : List Expr} {scope : Scope} {own : List (Str × Nat)} {ω : DI} {is : List Nat} {g : DG} {tt : DT}
theorem lc_ok {wi : TI} {σ : L2.St} {H : Hp} {Q : VK} (hv : ∀ i ∈ is, i ∈ own.map (·.2)) (own? : Bool)
    (h : upE X.K E (fun Ed sl st Q => ω Ed sl st fun ds st => wLcL g tt te (wipeS sl (own.map (·.2))) ds [] st fun acc st => if own? = true then Q (.o st.length) (st ++ [.lst acc]) else Q (.d (.list acc)) st) σ H Q) :
    tLc (upI X.K E ω) (fun v σ H Q => ∃ (Z : Zs) (sl : Sls) (s : Sl) (Qd : Sls → Sto → Prop), Z.H = H ∧ Ok X.K Z ∧ SlOk X.K Z σ sl ∧ Rp X.K Z v s ∧ g s sl Z.st Qd ∧ ∀ (σ' : L2.St) (sl' : Sls), σ'.length = σ.length → (∀ j : Nat, j ∉ is → σ'[j]? = σ[j]?) → SlOk X.K Z σ' sl' → Qd sl' Z.st → Q σ' Z.H)
      (upT X.K W0 tt) (upE X.K W0 te) (own.map (·.2)) σ H Q := by
  obtain ⟨Z, sl, Qd, Ed, h, ok, so, w, kq, kx⟩ := h
  refine ⟨Z, sl, _, Ed, h, ok, so, w, fun Z1 J ds l1 ok1 it w1 D nD => ?_, kx⟩
  generalize hvs : own.map (·.2) = vs at *
  have so1 := so.tr l1
  have nW1 := ok1.nw nD
  let G : List PyData → Hp → Prop := fun rest H => ∃ (Z2 : Zs) (acc : List PyData) (xs : List V), Z2.H = H ∧ Le Z1 (Z2.wo Z1.F) ∧ Z2.F = (fun a => Z1.F a ∨ a = D) ∧ D ∉ Z2.φ ∧ Kp Z1 Z2 ∧ Ok X.K Z2 ∧ SlOk X.K Z2 σ sl ∧ Z2.H D = some (.lst xs) ∧ Z2.ImAll X.K xs acc ∧
    wLcL g tt te (wipeS sl vs) rest acc Z2.st fun acc st => if own? = true then Qd (.o st.length) (st ++ [.lst acc]) else Qd (.d (.list acc)) st
  refine ⟨fun i m H => m = ds.length - i ∧ i ≤ ds.length ∧ G (ds.drop i) H, ⟨ds.length, by simp, Nat.zero_le _, ?_⟩, ?_⟩
  · have sy := mk_new (o := .lst []) ok1 nD
    refine ⟨Zs.mk Z1.φ Z1.st (upd Z1.H D (.lst [])) fun a => Z1.F a ∨ a = D, [], [], rfl, ⟨⟨[], by simp, fun _ h => by cases h⟩, ok1.len.symm, fun h c e => ⟨c, e, Iff.rfl⟩, fun a u e _ _ => upd_keep nD e, rfl, fun a u e => ⟨u, upd_keep nD e⟩⟩, rfl, ok1.fresh nD, sy, ?_, so1.stay sy rfl rfl, upd_same, .nil, w1⟩
    refine ok1.stay sy rfl rfl (fun a m u e => upd_keep nD e) (fun a f => ?_) (fun a m f => ?_) ?_
    · rcases f with f | f
      · obtain ⟨u, e⟩ := ok1.fo a f
        exact ⟨u, upd_keep nD e⟩
      · subst f
        exact ⟨_, upd_same⟩
    · rcases f with f | f
      · exact ok1.fd a m f
      · subst f
        exact ok1.fresh nD m
    · refine tabs_new ok1.tb nD fun x w => ?_
      rcases w with w | w | w
      · exact .inl (.inl w)
      · exact .inl (.inr w)
      · subst w; exact .inr nD
  rintro i m H2 ⟨rfl, hi, Z2, acc, xs, rfl, l2, eF, nφ, k2, ok2, so2, hD, rx, w2⟩
  by_cases hlt : i < ds.length
  · rw [List.drop_eq_getElem_cons hlt] at w2
    refine .inr ⟨it.go Z2 k2 ok2 i hlt, fun H' => G (ds.drop (i + 1)) H', fun H' z => ⟨ds.length - (i + 1), by omega, rfl, hlt, z⟩, fun v H' y => ?_⟩
    obtain ⟨Z3, l3, ok3, rfl, est, rv⟩ := it.yld Z2 k2 ok2 i v H' _ (List.getElem?_eq_getElem hlt) y
    rw [← est] at w2
    have keep : ∀ {Z4 : Zs}, Le Z2 Z4 → Z4.H D = some (.lst xs) ∧ D ∉ Z4.φ ∧ Z4.F = (fun a => Z1.F a ∨ a = D) ∧ Le Z1 (Z4.wo Z1.F) ∧ Kp Z1 Z4 ∧ SlOk X.K Z4 σ sl ∧ Z4.ImAll X.K xs acc := fun {Z4} l4 => by
      refine ⟨l4.frm D _ hD (fun z => nφ z.mem) (fun _ z => nomatch z), fun z => ?_, l4.fgn.trans eF, l2.trans (l4.wo _), k2.trans l4.stay, so2.tr l4, ImAll.tr l4.stay rx⟩
      obtain ⟨ψ, e, hn⟩ := l4.pre
      rw [e] at z
      rcases List.mem_append.mp z with z | z
      · exact nφ z
      · have := hn D z
        rw [hD] at this
        cases this
    obtain ⟨d3, n3, f3, q3, k3, s3, i3⟩ := keep l3
    refine ⟨Z3, wipeS sl vs, .d ds[i], _, rfl, ok3, s3.wipe vs, rv, w2, fun σ' sl' e1 e2 so4 w4 => ?_⟩
    refine ⟨wipe_same (by rw [e1, wipe_length]) fun j hj => e2 j fun z => hj (hv j z), ?_⟩
    refine ⟨Z3, sl', _, _, rfl, ok3, so4, w4, fun Z4 b l4 ok4 w5 => ?_, fun _ _ _ _ _ _ _ _ _ _ _ _ z => z⟩
    cases b with
    | false =>
      obtain ⟨d4, n4, f4, q4, k4, s4, i4⟩ := keep (l3.trans l4)
      exact ⟨Z4, acc, xs, rfl, q4, f4, n4, k4, ok4, s4, d4, i4, w5⟩
    | true =>
      refine ⟨Z4, sl', _, _, rfl, ok4, so4.tr l4, w5, fun Z5 u s l5 ok5 r5 w6 => ?_, fun _ _ _ _ _ _ _ _ _ _ _ _ z => z⟩
      obtain ⟨d5, n5, f5, q5, k5, s5, i5⟩ := keep ((l3.trans l4).trans l5)
      simp only at w6
      split at w6
      · rename_i y
        have wD : Z5.W D := .inr (by rw [f5]; exact .inr rfl)
        have sy := mk_upd (o := .lst (xs ++ [u])) wD
        refine ⟨xs, d5, by rw [i5.length]; exact w6.1, Zs.mk Z5.φ Z5.st (upd Z5.H D (.lst (xs ++ [u]))) Z5.F, acc ++ [y], xs ++ [u], rfl, ?_, f5, n5, k5.trans sy, ?_, s5.stay sy rfl rfl, upd_same, (ImAll.tr sy i5).append (.cons (Im.tr sy r5) .nil), w6.2⟩
        · refine ⟨q5.pre, q5.len, q5.liv, fun a o e na nt => ?_, rfl, fun a o e => ?_⟩
          · have ne : a ≠ D := fun z => by subst z; rw [nD] at e; cases e
            show upd Z5.H D _ a = _
            rw [upd_ne ne]
            exact q5.frm a o e na nt
          · have ne : a ≠ D := fun z => by subst z; rw [nD] at e; cases e
            obtain ⟨o', e'⟩ := q5.dom a o e
            exact ⟨o', by show upd Z5.H D _ a = _; rw [upd_ne ne]; exact e'⟩
        · refine ok5.stay sy rfl rfl (fun a m o e => ?_) (fun a f => ?_) ok5.fd (tabs_upd ok5.tb (fun _ z => by rw [d5] at z; cases z) (fun _ _ z => by rw [d5] at z; cases z) (fun x w => .inl w))
          · show upd Z5.H D _ a = _
            rw [upd_ne (fun z => n5 (by subst z; exact m))]
            exact e
          · by_cases ne : a = D
            · subst ne; exact ⟨_, upd_same⟩
            · obtain ⟨o, e⟩ := ok5.fo a f
              exact ⟨o, by show upd Z5.H D _ a = _; rw [upd_ne ne]; exact e⟩
      · exact w6.elim
  · have ei : i = ds.length := by omega
    subst ei
    rw [List.drop_length] at w2
    refine .inl ⟨it.stop Z2 k2 ok2, ?_⟩
    have sy : Stay Z2.W (Z2.wo Z1.F).W Z2.H Z2.H := Stay.less fun a w => by
      rcases w with w | w
      · exact .inl w
      · exact .inr (by rw [eF]; exact .inl w)
    have okE : Ok X.K (Z2.wo Z1.F) := ok2.stay sy rfl rfl (fun a _ o e => e) (fun a f => by
      obtain ⟨o, e⟩ := ok1.fo a f
      exact l2.dom a o e) (fun a m f => ok2.fd a m (by rw [eF]; exact .inl f)) (ok2.tb.less fun a w => by
      rcases w with w | w
      · exact .inl w
      · exact .inr (by rw [eF]; exact .inl w))
    have nwD : ¬ (Z2.wo Z1.F).W D := fun w => by
      rcases w with w | w
      · exact nφ w.mem
      · exact nW1 (.inr w)
    have w2' : if own? = true then Qd (.o Z2.st.length) (Z2.st ++ [.lst acc]) else Qd (.d (.list acc)) Z2.st := w2
    cases own? with
    | false => exact kq (Z2.wo Z1.F) (.ref D) (.d (.list acc)) (l1.trans l2) okE (Im.lst hD nwD (ImAll.tr sy rx)) w2'
    | true =>
      rw [if_pos rfl] at w2'
      have hl := ok2.len
      refine kq (Zs.mk (Z2.φ ++ [D]) (Z2.st ++ [.lst acc]) Z2.H Z1.F) (.ref D) (.o Z2.st.length) (l1.trans ?_) ?_ ⟨D, .lst acc, rfl, ?_, ?_, trivial⟩ w2'
      · obtain ⟨ψ, e, hn⟩ := l2.pre
        refine ⟨⟨ψ ++ [D], by show Z2.φ ++ [D] = _; rw [show Z2.φ = Z1.φ ++ ψ from e, List.append_assoc], fun a m => ?_⟩, l2.len, fun h c e => ?_, l2.frm, rfl, l2.dom⟩
        · rcases List.mem_append.mp m with m | m
          · exact hn a m
          · have : a = D := by simpa using m
            subst this; exact nD
        · obtain ⟨c', q1, q2⟩ := l2.liv h c e
          exact ⟨c', by show (Z2.st ++ _)[h]? = _; rw [List.getElem?_append_left (List.getElem?_eq_some_iff.mp q1).1]; exact q1, q2⟩
      · have hW2 : ∀ a, (Zs.mk (Z2.φ ++ [D]) (Z2.st ++ [.lst acc]) Z2.H Z1.F).W a → Z2.W a := fun a w => by
          rcases w with ⟨j, c', p1, p2, p3⟩ | w
          · rcases app1_get (show (Z2.φ ++ [D])[j]? = some a from p1) with p1 | ⟨p1, z1⟩
            · rcases app1_get (show (Z2.st ++ [Ct.lst acc])[j]? = some c' from p2) with p2 | ⟨p2, z2⟩
              · exact .inl ⟨j, c', p1, p2, p3⟩
              · have := (List.getElem?_eq_some_iff.mp p1).1
                omega
            · subst z1
              exact .inr (by rw [eF]; exact .inr rfl)
          · exact .inr (by rw [eF]; exact .inl w)
        have sy2 : Stay Z2.W (Zs.mk (Z2.φ ++ [D]) (Z2.st ++ [.lst acc]) Z2.H Z1.F).W Z2.H Z2.H := Stay.less hW2
        have rp2 : ∀ {v : V} {y : Sl}, Rp X.K Z2 v y → Rp X.K (Zs.mk (Z2.φ ++ [D]) (Z2.st ++ [.lst acc]) Z2.H Z1.F) v y := fun {v y} r => by
          cases y with
          | d x => exact Im.tr sy2 r
          | o h =>
            obtain ⟨a, c, q1, q2, q3, q4⟩ := r
            exact ⟨a, c, q1, by show (Z2.φ ++ _)[h]? = _; rw [List.getElem?_append_left (List.getElem?_eq_some_iff.mp q2).1]; exact q2, by show (Z2.st ++ _)[h]? = _; rw [List.getElem?_append_left (List.getElem?_eq_some_iff.mp q3).1]; exact q3, q4⟩
          | r u => exact r
          | l _ _ _ => exact ⟨r.1, r.2.trans sy2⟩
          | f ns => obtain ⟨a, q1, q2⟩ := r; exact ⟨a, q1, q2.tr sy2⟩
        refine ⟨?_, List.nodup_append.mpr ⟨ok2.nd, by simp, fun a ha b hb z => ?_⟩, fun h a c e1 e2 => ?_, okE.fo, fun a m f => ?_, ok2.tb.less hW2⟩
        · show (Z2.φ ++ [D]).length = (Z2.st ++ [Ct.lst acc]).length
          rw [List.length_append, List.length_append, hl]
          rfl
        · have : b = D := by simpa using hb
          subst this z
          exact nφ ha
        · rcases app1_get (show (Z2.φ ++ [D])[h]? = some a from e1) with e1 | ⟨e1, z1⟩
          · rcases app1_get (show (Z2.st ++ [Ct.lst acc])[h]? = some c from e2) with e2 | ⟨e2, z2⟩
            · exact ctok_st sy2 rp2 (fun _ e _ => e) (fun o e => ⟨o, e⟩) (ok2.ct h a c e1 e2)
            · have := (List.getElem?_eq_some_iff.mp e1).1
              omega
          · rcases app1_get (show (Z2.st ++ [Ct.lst acc])[h]? = some c from e2) with e2 | ⟨e2, z2⟩
            · have := (List.getElem?_eq_some_iff.mp e2).1
              omega
            · subst z1 z2
              exact ⟨xs, hD, ImAll.tr sy2 rx⟩
        · rcases List.mem_append.mp (show a ∈ Z2.φ ++ [D] from m) with m | m
          · exact okE.fd a m f
          · have : a = D := by simpa using m
            subst this
            obtain ⟨o, e⟩ := ok1.fo a f
            rw [nD] at e; cases e
      · show (Z2.φ ++ [D])[Z2.st.length]? = _
        rw [← hl, List.getElem?_append_right (Nat.le_refl _)]
        simp
      · show (Z2.st ++ [Ct.lst acc])[Z2.st.length]? = _
        rw [List.getElem?_append_right (Nat.le_refl _)]
        simp
theorem de_lc (hc : X.calm = true) (hN : X.N.Nodup) (hi : DIt X E tg iter ω) (ok : BlkOk X.N X.env.scope scope own) (hv : ∀ i ∈ is, i ∈ own.map (·.2))
    (hg : ∀ (s : Shared) (H : Hp) (C : Addr) (cl : List (Str × Addr)) (fp : List Addr), DGt (X.blk s H scope (compEnvC scope cl C X.env) fp) tg is g) (ht : ∀ (s : Shared) (H : Hp) (C : Addr) (cl : List (Str × Addr)) (fp : List Addr), DPt (X.blk s H scope (compEnvC scope cl C X.env) fp) W0 ifs tt)
    (he : ∀ (s : Shared) (H : Hp) (C : Addr) (cl : List (Str × Addr)) (fp : List Addr), DEx (X.blk s H scope (compEnvC scope cl C X.env) fp) W0 elt te) (hs : ∀ x, foldedSetIterable iter X.env x = pure x := by intro _; rfl) : DEx X E (.ListComp elt [⟨tg, iter, ifs, 0⟩] scope pos) (wLc ω g tt te (own.map (·.2))) :=
  ⟨peI (pe_lc hc hN hi.run ok (fun s H C cl fp => (hg s H C cl fp).run) (fun s H C cl fp => (ht s H C cl fp).run) (fun s H C cl fp => (he s H C cl fp).run) hs) fun σ H Q h => lc_ok (wi := fun _ _ _ => True) hv false h⟩
theorem setLc_ok {st : Stmt} {wi : TE} {te : DE} {i : Nat} (h : PS X st (tAsg wi (gName i))) (hh : ∀ σ H Q, upE X.K E te σ H Q → wi σ H Q) : DSt X E Z0 st (wSet i te) :=
  ⟨psI h fun D σ H ⟨Z, sl, Dd, h, l0, ok, so, w, en⟩ => hh _ _ _ ⟨Z, sl, _, Dd.ex, h, ok, so, w, fun Z1 v s l1 ok1 r1 w1 => en.nx Z1 (sl.set i (some s)) _ (l0.trans l1) l1.stay ok1 ((so.tr l1).set i r1) w1, en.ex.le l0⟩⟩
theorem ds_setLc (i : Nat) {y : Str} {py spos : Pos} (hc : X.calm = true) (hN : X.N.Nodup) (hi : DIt X E tg iter ω) (ok : BlkOk X.N X.env.scope scope own) (hv : ∀ i ∈ is, i ∈ own.map (·.2))
    (hg : ∀ (s : Shared) (H : Hp) (C : Addr) (cl : List (Str × Addr)) (fp : List Addr), DGt (X.blk s H scope (compEnvC scope cl C X.env) fp) tg is g) (ht : ∀ (s : Shared) (H : Hp) (C : Addr) (cl : List (Str × Addr)) (fp : List Addr), DPt (X.blk s H scope (compEnvC scope cl C X.env) fp) W0 ifs tt)
    (he : ∀ (s : Shared) (H : Hp) (C : Addr) (cl : List (Str × Addr)) (fp : List Addr), DEx (X.blk s H scope (compEnvC scope cl C X.env) fp) W0 elt te) (hsw : swapsWith (.ListComp elt [⟨tg, iter, ifs, 0⟩] scope pos) (some (.Name y py)) spos.line X.env = pure true)
    (hs : ∀ x, foldedSetIterable iter X.env x = pure x := by intro _; rfl) (hy : X.N[i]? = some y := by rfl) (hyl : X.env.scope.names.lookup y = some .local := by rfl) : DSt X E Z0 (.Assign [.Name y py] (.ListComp elt [⟨tg, iter, ifs, 0⟩] scope pos) spos) (wSet i (wLc ω g tt te (own.map (·.2)))) :=
  setLc_ok (ps_setLc hc hN hy hyl hsw hi.run ok (fun s H C cl fp => (hg s H C cl fp).run) (fun s H C cl fp => (ht s H C cl fp).run) (fun s H C cl fp => (he s H C cl fp).run) hs) fun σ H Q h => lc_ok (wi := fun _ _ _ => True) hv false h
end
end Pz
set_option maxRecDepth 100000
namespace Pz
open PySem PySem.Spec PyProof.Rows L2 TL
variable [TabC]
section
variable {K : Frag} {Z : Zs} {h : Nat} {a : Addr} {c c' : Ct} {o : HO}
def Zs.put (Z : Zs) (h : Nat) (a : Addr) (o : HO) (c : Ct) : Zs := ⟨Z.φ, Z.st.set h c, upd Z.H a o, Z.F⟩
theorem Ok.one (ok : Ok K Z) {i j : Nat} (e1 : Z.φ[i]? = some a) (e2 : Z.φ[j]? = some a) : i = j := by
  have l1 := (List.getElem?_eq_some_iff.mp e1).1
  have l2 := (List.getElem?_eq_some_iff.mp e2).1
  rw [List.getElem?_eq_getElem l1] at e1
  rw [List.getElem?_eq_getElem l2] at e2
  exact (List.getElem_inj ok.nd).mp ((Option.some.inj e1).trans (Option.some.inj e2).symm)
theorem Ok.lePut (ok : Ok K Z) (e1 : Z.φ[h]? = some a) (e2 : Z.st[h]? = some c) (lv : c.live) (lv' : c'.live) : Le Z (Z.put h a o c') where
  pre := ⟨[], by simp [Zs.put], fun _ h => by cases h⟩
  len := ok.len.symm
  liv := fun j d e => by
    show ∃ d', (Z.st.set h c')[j]? = some d' ∧ _
    by_cases z : h = j
    · subst z
      rw [e2] at e
      cases e
      exact ⟨c', List.getElem?_set_self (List.getElem?_eq_some_iff.mp e2).1, ⟨fun _ => lv', fun _ => lv⟩⟩
    · exact ⟨d, by rw [List.getElem?_set_ne z]; exact e, Iff.rfl⟩
  frm := fun b u e nb _ => by
    show upd Z.H a o b = _
    rw [upd_ne (fun z => nb (by subst z; exact ⟨h, c, e1, e2, lv⟩))]
    exact e
  fgn := rfl
  dom := fun b u e => by
    show ∃ o', upd Z.H a o b = some o'
    by_cases z : b = a
    · subst z; exact ⟨_, upd_same⟩
    · exact ⟨u, by rw [upd_ne z]; exact e⟩
theorem Ok.put (ok : Ok K Z) (e1 : Z.φ[h]? = some a) (e2 : Z.st[h]? = some c) (lv : c.live) (lv' : c'.live) (new : CtOk K (Z.put h a o c') a c') (hw : c.wr := by trivial) (ho : NotTbl o := by exact fun _ z => nomatch z) : Ok K (Z.put h a o c') where
  len := by show Z.φ.length = (Z.st.set h c').length; rw [List.length_set]; exact ok.len
  nd := ok.nd
  ct := fun j b d q1 q2 => by
    have q1' : Z.φ[j]? = some b := q1
    have q2' : (Z.st.set h c')[j]? = some d := q2
    by_cases z : h = j
    · subst z
      rw [List.getElem?_set_self (List.getElem?_eq_some_iff.mp e2).1] at q2'
      cases q2'
      rw [e1] at q1'
      cases q1'
      exact new
    · rw [List.getElem?_set_ne z] at q2'
      have l := ok.lePut (o := o) e1 e2 lv lv'
      refine ctok_st l.stay (fun r => r.tr l) (fun u e _ => ?_) (fun u e => l.dom b u e) (ok.ct j b d q1' q2')
      show upd Z.H a o b = _
      rw [upd_ne (fun y => z (by subst y; exact ok.one e1 q1'))]
      exact e
  fo := fun b f => by
    obtain ⟨u, e⟩ := ok.fo b f
    exact (ok.lePut (o := o) (c' := c') e1 e2 lv lv').dom b u e
  fd := ok.fd
  tb := by
    have q := ok.ct h a c e1 e2
    refine tabs_upd ok.tb (fun ps z => ?_) (fun c0 q0 z => ?_) (ok.lePut (o := o) e1 e2 lv lv').w ho (fun xs e _ => new.notup lv' xs (by rw [← e]; exact upd_same))
    · cases c with
      | lst ds => obtain ⟨vs, z1, _⟩ := q; rw [z1] at z; cases z
      | lsS ds => obtain ⟨vs, z1, _⟩ := q; rw [z1] at z; cases z
      | dK kvs => obtain ⟨vs, z1, _⟩ := q; rw [z1] at z; cases z
      | dT kvs => obtain ⟨vs, z1, _⟩ := q; rw [z1] at z; cases z
      | dN fs => obtain ⟨us, z1, _⟩ := q; rw [z1] at z; cases z
      | ins C fs => obtain ⟨dx, us, z1, _⟩ := q; rw [z1] at z; cases z
      | exc c fs => exact hw.elim
      | dead => exact hw.elim
    · unfold LamX.CodeO at z
      cases c with
      | lst ds => obtain ⟨vs, z1, _⟩ := q; rw [z1] at z; cases z
      | lsS ds => obtain ⟨vs, z1, _⟩ := q; rw [z1] at z; cases z
      | dK kvs => obtain ⟨vs, z1, _⟩ := q; rw [z1] at z; cases z
      | dT kvs => obtain ⟨vs, z1, _⟩ := q; rw [z1] at z; cases z
      | dN fs => obtain ⟨us, z1, _⟩ := q; rw [z1] at z; exact nd_code (Option.some.inj z)
      | ins C fs => obtain ⟨dx, us, z1, _⟩ := q; rw [z1] at z; cases z
      | exc c fs => exact hw.elim
      | dead => exact hw.elim
theorem Rp.hl (ok : Ok K Z) {v : V} {h : Nat} {ds : List PyData} (r : Rp K Z v (.o h)) (e : Z.st[h]? = some (.lst ds)) : ∃ a xs, v = .ref a ∧ Z.φ[h]? = some a ∧ Z.H a = some (.lst xs) ∧ Z.ImAll K xs ds := by
  obtain ⟨a, c, ev, e1, e2, e3⟩ := r
  rw [e] at e2
  cases e2
  obtain ⟨xs, q, r⟩ := ok.ct h a _ e1 e
  exact ⟨a, xs, ev, e1, q, r⟩
end
section
variable {X : Cx} {E : WXs} {Z0 : Zs} {e ob ix : Expr} {es : List Expr} {to ti te : DE} {t : DA} {pos cpos apos tpos : Pos} {x name : Str} {K : Frag} {T id : String}
abbrev FM := Sl → List Sl → Sto → DK → Prop
def MetD (K : Frag) (r : V → List V → Hp → VK → Prop) (f : FM) : Prop := ∀ (Z : Zs) (v : V) (s : Sl) (vs : List V) (ss : List Sl) (Qd : DK) (Q : VK), Ok K Z → Rp K Z v s → RpAll K Z vs ss → f s ss Z.st Qd → KOk K Z Qd Q → r v vs Z.H Q
def tyD (T : String) (st : Sto) (s : Sl) : Prop := match vw st s with
  | some (.list _) => T = "list"
  | some (.str _) => T = "str"
  | _ => False
theorem tyD_ok {Z : Zs} (ok : Ok K Z) {v : V} {s : Sl} (r : Rp K Z v s) (h : tyD T Z.st s) : tyV K T v Z.H := by
  unfold tyD at h
  split at h
  · rename_i ds e
    obtain ⟨a, xs, rfl, q, _⟩ := r.list ok e
    exact .inl ⟨h, xs, .of q⟩
  · rename_i z e
    obtain rfl := r.str e
    exact h
  · exact h.elim
def wBM (T : String) (f : FM) (to : DE) (t : DA) : DE := fun Ed sl st Q => to Ed sl st fun s st => tyD T st s ∧ t Ed sl st fun ss st => f s ss st Q
theorem de_bm {r : V → List V → Hp → VK → Prop} {f : FM} (hd : MetD X.K r f) (pa : PlainAttrs T) (slot : Slot T name id) (hty : typeOf (.builtin id) = pure (.type "method_descriptor")) (hm : MtR X id r) (ho : DEx X E ob to) (ha : DAs X E (e :: es) t)
    (hbase : attributeBase ob name X.env (eval ob X.env) = eval ob X.env := by rfl)
    (hfew : ((backTo cpos (starEach (e :: es) X.env)).all (fun x => !x.1) && (backToKw cpos (keywordEach [] X.env)).all (fun x => x.1.isSome)
      && decide ((e :: es).length + ([] : List Keyword).length + (if ([] : List Keyword).isEmpty then 0 else 1) < 30)) = true := by rfl)
    (hline : (apos.endLine == cpos.line) = true := by rfl) (hs : starEach (e :: es) X.env = (false, eval e X.env) :: starEach es X.env := by rfl) (hplain : (backTo cpos (starEach es X.env)).any (·.1) = false := by rfl) :
    DEx X E (.Call (.Attribute ob name apos) (e :: es) [] cpos) (wBM T f to t) :=
  ⟨peI (pe_bm pa slot hty hm ho.run ha.run hbase hfew hline hs hplain) fun σ H Q ⟨Z, sl, Qd, Ed, h, ok, so, w, k, kx⟩ =>
    ⟨Z, sl, _, Ed, h, ok, so, w, fun Z1 v s l1 ok1 r1 w1 => ⟨tyD_ok ok1 r1 w1.1, Z1, sl, _, Ed, rfl, ok1, so.tr l1, w1.2, fun Z2 vs ss l2 ok2 r2 w2 => hd Z2 v s vs ss Qd Q ok2 (r1.tr l2) r2 w2 (k.le (l1.trans l2)), kx.le l1⟩, kx⟩⟩
def mAppend : FM := fun s ss st Q => match s, ss with
  | .o h, [.d y] => match st[h]? with
    | some (.lst ds) => ds.length < sizeLine ∧ Q (.d .none) (st.set h (.lst (ds ++ [y])))
    | _ => False
  | _, _ => False
def mExtend : FM := fun s ss st Q => match s, ss with
  | .o h, [y] => match st[h]?, vw st y with
    | some (.lst ds), some (.list zs) => ds.length + zs.length ≤ sizeLine ∧ Q (.d .none) (st.set h (.lst (ds ++ zs)))
    | _, _ => False
  | _, _ => False
def mPop : FM := fun s ss st Q => match s, ss with
  | .o h, [] => match st[h]? with
    | some (.lst ds) => match ds[ds.length - 1]? with
      | some d => Q (.d d) (st.set h (.lst ds.dropLast))
      | none => False
    | _ => False
  | _, _ => False
def mReverse : FM := fun s ss st Q => match s, ss with
  | .o h, [] => match st[h]? with
    | some (.lst ds) => Q (.d .none) (st.set h (.lst ds.reverse))
    | _ => False
  | _, _ => False
def wSetIx (te to ti : DE) : DS := fun D sl st => te D.ex sl st fun v st => to D.ex sl st fun o st => ti D.ex sl st fun i st => match o, v, i with
  | .o h, .d y, .d (.int j) => match st[h]? with
    | some (.lst ds) => match ixN ds.length j with
      | some n => D.nx sl (st.set h (.lst (ds.set n y)))
      | none => False
    | _ => False
  | _, _, _ => False
theorem ds_setIx (he : DEx X E e te) (ho : DEx X E ob to) (hi : DEx X E ix ti)
    (ha : ∀ v, assign (.Subscript ob ix tpos) X.env v = (do
      let ov ← holding [v] (eval ob X.env)
      let iv ← holding [v, ov] (eval ix X.env)
      standAt tpos
      holding [v, ov, iv] (setItem ov iv v)
      release [v, ov, iv] []) := by intro _; rfl)
    (hs : swapsWithSole [.Subscript ob ix tpos] e pos.line X.env = pure false := by rfl) (hw : swappedStores [.Subscript ob ix tpos] e X.env = pure none := by rfl)
    (h1 : (assignEach [.Subscript ob ix tpos] X.env).map (·.2) = [assign (.Subscript ob ix tpos) X.env] := by rfl) : DSt X E Z0 (.Assign [.Subscript ob ix tpos] e pos) (wSetIx te to ti) :=
  ⟨psI (ps_asg he.run (pg_sub ho.run hi.run set_list ha) hs hw h1) fun D σ H ⟨Z, sl, Dd, h, l0, ok, so, w, en⟩ =>
    ⟨Z, sl, _, Dd.ex, h, ok, so, w, fun Z1 v s l1 ok1 r1 w1 => ⟨Z1, sl, _, Dd.ex, rfl, ok1, so.tr l1, w1, fun Z2 u t l2 ok2 r2 w2 => ⟨Z2, sl, _, Dd.ex, rfl, ok2, (so.tr l1).tr l2, w2, fun Z3 i y l3 ok3 r3 w3 => by
      simp only at w3
      split at w3
      · rename_i hh d j
        split at w3
        · rename_i ds es
          split at w3
          · rename_i n en'
            obtain ⟨a, xs, rfl, e1, q, r⟩ := (r2.tr l3).hl ok3 es
            obtain rfl : i = .int j := by cases r3; rfl
            refine ⟨a, xs, j, n, rfl, rfl, q, by rw [r.length]; exact en', ?_⟩
            have l := ok3.lePut (o := .lst (xs.set n v)) (c' := .lst (ds.set n d)) e1 es trivial trivial
            have lz := ((l1.trans l2).trans l3).trans l
            have rv : Z3.Im X.K v d := (r1.tr l2).tr l3
            exact en.nx (Z3.put hh a (.lst (xs.set n v)) (.lst (ds.set n d))) sl σ (l0.trans lz) lz.stay (ok3.put e1 es trivial trivial ⟨_, upd_same, ImAll.tr l.stay (r.set rv n)⟩) (so.tr lz) w3
          · exact w3.elim
        · exact w3.elim
      · exact w3.elim, (en.ex.le l0).le (l1.trans l2)⟩, (en.ex.le l0).le l1⟩, en.ex.le l0⟩⟩
def frzS (h : Nat) (ds : List PyData) : Option Sl → Option Sl
  | some (.o j) => if j = h then some (.d (.list ds)) else some (.o j)
  | s => s
def NoRef (h : Nat) : Ct → Prop
  | .ins _ fs => ∀ p ∈ fs, p.2 ≠ .o h
  | .lsS xs => ∀ x ∈ xs, x ≠ .o h
  | .dN kvs => ∀ p ∈ kvs, p.2 ≠ .o h
  | _ => True
def wFrz (n0 i : Nat) (u : DS) : DS := fun D sl st => match nthS sl i with
  | some (.o h) => match st[h]? with
    | some (.lst ds) => n0 ≤ h ∧ (∀ c ∈ st, NoRef h c) ∧ u D (sl.map (frzS h ds)) (st.set h .dead)
    | _ => False
  | _ => u D sl st
end
end Pz
set_option maxRecDepth 100000
namespace Pz
open PySem PySem.Spec PyProof.Rows L2 TL
variable [TabC]
theorem lawG {P : Program} {w : World} {K : Frag} {mg mb : Str → Option Value} {CX : CXT} {k : Nat} {fa a : Addr} {fd : FuncData} {x : Str} {sp : Sp} {s₁ : Shared} {vs : List Value} {ns : List Int}
    (KX : K.In s₁.heap) (hns : s₁.heap.Ns mainGlobals mg) (hb : s₁.heap.Ns builtinsNs mb) (hbb : ∀ x : Str, x ≠ "__name__" → mb x = bootBuiltins x) (hlim : s₁.heap.NoLimit) (hg : s₁.gens = #[])
    (ha : s₁.heap.get? a = some { cls := .type "list", data := .seq vs.toArray }) (hi : IntsAre vs ns) (hl : ns.length ≤ sizeLine) (hr : Room k callerA)
    (F : ∀ base : Heap, K.In base → base.Ns mainGlobals mg → FnG P w K mg base CX k fa fd [x] sp) (hbind : ∀ (s : Shared) (u : Value), BindsTo s fd ⟨[u], []⟩ [(x, u)])
    (hsp : ∀ H : Hp, Only H → SqL K H a (ns.map V.int) → sp [.ref a] H (fun v _ => v = .bl true) fun _ _ _ => False)
    (hCX : ∀ H e s', CX [] H s₁ (fun _ _ _ => False) e s' → False) :
    codeAny (model P w) callerA (.call (.ref fa) ⟨[.ref a], []⟩) (fun r s' => r = .ok (.ret (.bool true)) ∧ OldK s₁.heap s'.heap ∧ s'.os = s₁.os ∧ AllBare s'.gens) s₁ := by
  have vl := hi.length
  obtain ⟨H, hO, hS, hok, one⟩ : ∃ H : Hp, Only H ∧ SqL K H a (ns.map V.int) ∧ HOk P w H s₁.heap ∧ ∀ b o, H b = some o → b = a ∧ K.lookup a = none := by
    cases q : K.lookup a with
    | some o =>
      have e := KX a o q
      rw [ha] at e
      cases e
      exact ⟨fun _ => none, fun _ => .inl rfl, .inr ⟨_, vs.toArray, _, q, rfl, rfl, rfl, by simpa [vl] using hl, by simpa using vals_ints hi⟩, (fun b u (z : (none : Option HO) = some u) => by cases z), (fun b o (z : (none : Option HO) = some o) => by cases z)⟩
    | none =>
      have at_ : ∀ b u, (if b = a then some (HO.frz { cls := .type "list", data := .seq vs.toArray } (.lst (ns.map V.int))) else none) = some u → b = a ∧ u = .frz { cls := .type "list", data := .seq vs.toArray } (.lst (ns.map V.int)) := fun b u z => by
        split at z
        · rename_i e; cases z; exact ⟨e, rfl⟩
        · cases z
      refine ⟨fun b => if b = a then some (.frz { cls := .type "list", data := .seq vs.toArray } (.lst (ns.map V.int))) else none, fun b => ?_, .inl (.inr ⟨_, if_pos rfl⟩), fun b u z => ?_, fun b u z => ⟨(at_ b u z).1, rfl⟩⟩
      · by_cases e : b = a
        · exact .inr ⟨_, _, if_pos e⟩
        · exact .inl (if_neg e)
      · obtain ⟨rfl, rfl⟩ := at_ b u z
        exact ⟨ha, by simpa using hl, vs, _, vals_ints hi, ha⟩
  have kept : ∀ {b : Addr} {o : Obj}, s₁.heap.get? b = some o → H b = none → (hidT s₁.heap H).get? b = some o := fun e n => hidT_get e n
  have dict0 : ∀ {b : Addr} {o : Obj} {es : Array DictEntry} {ep : Nat}, s₁.heap.get? b = some o → o.data = .dict es ep → H b = none := fun {b o es ep} e d => by
    cases q : H b with
    | none => rfl
    | some u =>
      obtain ⟨rfl, _⟩ := one b u q
      rw [ha] at e
      cases e
      cases d
  have names : ∀ {b : Addr} {m : Str → Option Value}, s₁.heap.Ns b m → (hidT s₁.heap H).Ns b m := fun ⟨o, es, ep, e, d, r⟩ => ⟨o, es, ep, kept e (dict0 e d), d, r⟩
  have inK : K.In (hidT s₁.heap H) := fun b o e => kept (KX b o e) (by
    cases q : H b with
    | none => rfl
    | some u =>
      obtain ⟨rfl, z⟩ := one b u q
      rw [z] at e; cases e)
  have env : Env0 P w K mg (hidT s₁.heap H) callerA [] s₁ H := by
    obtain ⟨mc, z1, z2⟩ := hlim
    exact ⟨rfl, ⟨inK, names hns, ⟨mb, names hb, hbb⟩, ⟨mc, names z1, z2⟩⟩, (fun b o e => of_hidT e), Nat.le_of_eq (hidT_size _ _), trivial, (fun b (z : b ∈ ([] : List Addr)) => by cases z), hok, AllBare.of_eq hg⟩
  refine codeAny_mono ((F _ inK (names hns)).go callerA rfl hr [] s₁ H env ⟨[.ref a], []⟩ [.ref a] (hbind s₁ (.ref a)) [.ref a] _ _ (.cons rfl .nil) (hsp H hO hS)) ?_
  rintro (er | fl) s' z
  · exact (hCX H er s' z).elim
  · rcases fl with _ | _ | _ | u
    · exact z.elim
    · exact z.elim
    · exact z.elim
    · obtain ⟨v, H', os, bare, un, hok', r', rfl⟩ := z
      obtain rfl : u = Value.bool true := r'
      refine ⟨rfl, .of_keep fun b o e => ?_, os, bare⟩
      cases q : H b with
      | none => exact un.keep b o e q (fun z => by cases z) (fun z => by cases z)
      | some c =>
        rcases hO b with z | ⟨ob, xs, z⟩
        · rw [q] at z; cases z
        · obtain ⟨e1, _⟩ := hok b _ z
          obtain ⟨e2, _⟩ := hok' b _ (un.frzs b ob _ z)
          rw [e] at e1; cases e1
          exact e2
theorem walkG {l : PySem.W.OpenLaw} {n k : Nat} {q : Program} {loose : List Str} {XP : (Str → Option Value) → Heap → Prop} {YP : World → Heap → Prop} {d : DefRec} {K : Params → Frag} {CX : World → CXT} {x : Str} {law : DSp}
    (hn : l.most = some n) (hn2 : n ≤ sizeLine) (hdf : d.params.defaults = []) (hr : Room k callerA) (hY : ∀ (w : World) (h : Heap), YP w h → (K w.params).In h)
    (F : ∀ (w : World) (mg : Str → Option Value) (fa : Addr) (h : Heap), (K w.params).In h → h.Ns mainGlobals mg → mg d.name = some (.ref fa) →
      ∃ fd : FuncData, (∀ (s : Shared) (u : Value), BindsTo s fd ⟨[u], []⟩ [(x, u)]) ∧ ∀ base : Heap, (K w.params).In base → base.Ns mainGlobals mg → FnD l.prog w (K w.params) mg base (CX w) k fa fd [x] law)
    (hsp : ∀ ns : List Int, ns.length ≤ n → (∀ z ∈ ns, Builtin.Int.intBits z ≤ 1048576) → law [.f ns] [] (fun s _ => s = .d (.bool true)) fun _ _ _ => False)
    (hCX : ∀ (w : World) (H : Hp) (s : Shared) (e : Value) (s' : Shared), CX w [] H s (fun _ _ _ => False) e s' → False) (hT0 : TabC.T = [] := by rfl) : PySem.W.WalkO q loose XP YP l.row.toRowW d [] (fun f vs => PySem.call f vs) := by
  refine Att.attach_callB hn hdf fun w s₀ s₁ mg mb fa o pm cd doc a vs ns G Y ho hd hcd hmg hobj hints hlen hbits hg => ?_
  have KX := hY w _ Y
  obtain ⟨fd, hb, hF⟩ := F w mg fa _ KX G.T.g hmg
  refine lawG KX G.T.g G.T.b G.T.builtins G.T.nolimit hg hobj hints (Nat.le_trans hlen hn2) hr hF hb (fun H hO hS => ?_) fun H e s' => hCX w H s₁ e s'
  have tb0 : TabOk (Zs.mk [] [] H fun _ => False).W H := by
    refine ⟨by rw [hT0]; exact fun p hp => (by cases hp), fun b ps e => ?_, by rw [hT0]; exact fun p hp => (by cases hp), fun b xs _ w => (by
      rcases w with ⟨i, c, e, _⟩ | w
      · simp at e
      · exact w)⟩
    rcases hO b with z | ⟨o, xs, z⟩
    · rw [z] at e; cases e
    · rw [z] at e; cases e
  refine ⟨⟨[], [], H, fun _ => False⟩, [.f ns], _, _, rfl, ⟨rfl, .nil, fun h a c e => by simp at e, fun a z => z.elim, fun a m => (by cases m), tb0⟩, .cons ⟨a, rfl, ?_⟩ .nil, rfl, hsp ns hlen hbits, ?_, ?_⟩
  · rcases hS with r | r
    · exact .inl ⟨r, fun w => by
        rcases w with ⟨i, c, e, _⟩ | w
        · simp at e
        · exact w⟩
    · exact .inr r
  · rintro Z' v s l ok r rfl
    cases r
    rfl
  · intro Z' c xn d fs l ok x hcv z
    exact z
def sp0 (f : Sto → DK → DXF → Prop) : DSp := fun ss cs Q Ed => match ss with | [] => f cs Q Ed | _ => False
def sp1 (f : Sl → Sto → DK → DXF → Prop) : DSp := fun ss cs Q Ed => match ss with | [a] => f a cs Q Ed | _ => False
def sp2 (f : Sl → Sl → Sto → DK → DXF → Prop) : DSp := fun ss cs Q Ed => match ss with | [a, b] => f a b cs Q Ed | _ => False
def sp3 (f : Sl → Sl → Sl → Sto → DK → DXF → Prop) : DSp := fun ss cs Q Ed => match ss with | [a, b, c] => f a b c cs Q Ed | _ => False
def sp4 (f : Sl → Sl → Sl → Sl → Sto → DK → DXF → Prop) : DSp := fun ss cs Q Ed => match ss with | [a, b, c, d] => f a b c d cs Q Ed | _ => False
def sp5 (f : Sl → Sl → Sl → Sl → Sl → Sto → DK → DXF → Prop) : DSp := fun ss cs Q Ed => match ss with | [a, b, c, d, e] => f a b c d e cs Q Ed | _ => False
theorem l0 {f} : ∀ ss cs Q Ed, sp0 f ss cs Q Ed → ss.length = 0 := fun ss cs Q Ed h => by
  unfold sp0 at h; split at h <;> first | rfl | exact h.elim
theorem l1 {f} : ∀ ss cs Q Ed, sp1 f ss cs Q Ed → ss.length = 1 := fun ss cs Q Ed h => by
  unfold sp1 at h; split at h <;> first | rfl | exact h.elim
theorem l2 {f} : ∀ ss cs Q Ed, sp2 f ss cs Q Ed → ss.length = 2 := fun ss cs Q Ed h => by
  unfold sp2 at h; split at h <;> first | rfl | exact h.elim
theorem l3 {f} : ∀ ss cs Q Ed, sp3 f ss cs Q Ed → ss.length = 3 := fun ss cs Q Ed h => by
  unfold sp3 at h; split at h <;> first | rfl | exact h.elim
theorem l4 {f} : ∀ ss cs Q Ed, sp4 f ss cs Q Ed → ss.length = 4 := fun ss cs Q Ed h => by
  unfold sp4 at h; split at h <;> first | rfl | exact h.elim
theorem l5 {f} : ∀ ss cs Q Ed, sp5 f ss cs Q Ed → ss.length = 5 := fun ss cs Q Ed h => by
  unfold sp5 at h; split at h <;> first | rfl | exact h.elim
theorem i1 {f} {P : List Sl → Prop} {cs Q Ed} (k : ∀ a, f a cs Q Ed → P [a]) : ∀ ss, sp1 f ss cs Q Ed → P ss := fun ss h => by
  unfold sp1 at h; split at h <;> first | exact k _ h | exact h.elim
theorem i2 {f} {P : List Sl → Prop} {cs Q Ed} (k : ∀ a b, f a b cs Q Ed → P [a, b]) : ∀ ss, sp2 f ss cs Q Ed → P ss := fun ss h => by
  unfold sp2 at h; split at h <;> first | exact k _ _ h | exact h.elim
theorem i3 {f} {P : List Sl → Prop} {cs Q Ed} (k : ∀ a b c, f a b c cs Q Ed → P [a, b, c]) : ∀ ss, sp3 f ss cs Q Ed → P ss := fun ss h => by
  unfold sp3 at h; split at h <;> first | exact k _ _ _ h | exact h.elim
theorem i4 {f} {P : List Sl → Prop} {cs Q Ed} (k : ∀ a b c d, f a b c d cs Q Ed → P [a, b, c, d]) : ∀ ss, sp4 f ss cs Q Ed → P ss := fun ss h => by
  unfold sp4 at h; split at h <;> first | exact k _ _ _ _ h | exact h.elim
theorem i5 {f} {P : List Sl → Prop} {cs Q Ed} (k : ∀ a b c d e, f a b c d e cs Q Ed → P [a, b, c, d, e]) : ∀ ss, sp5 f ss cs Q Ed → P ss := fun ss h => by
  unfold sp5 at h; split at h <;> first | exact k _ _ _ _ _ h | exact h.elim
structure FAt (K : Frag) (mg : Str → Option Value) (x : Str) (st : Stmt) (ps : List Str) (f : Addr) (fd : FuncData) : Prop where
  F : Fun K x x st f fd
  g : mg x = some (.ref f)
  b : Binds K fd ps []
abbrev endD (n0 : Nat) (Qd : DK) : DEnds := ⟨fun _ st => Ret n0 (.d .none) st Qd, fun s st => Ret n0 s st Qd, fun _ _ _ _ => False, fun _ _ => False, fun _ _ => False⟩
theorem ret_d {x : PyData} {st : Sto} {Q : DK} : Ret 0 (.d x) st Q = Q (.d x) [] := by
  unfold Ret
  simp
end Pz
set_option maxRecDepth 100000
namespace Pz
open PySem PySem.Spec PyProof.Rows L2 TL
theorem e1 {f} {G : List Sl → Sto → DK → DXF → Prop} {m : Nat} (k : ∀ a cs Qd Ed, f a cs Qd Ed → G [a] cs Qd Ed) : ∀ ss cs Qd Ed, sp1 f ss cs Qd Ed → ss.length = m → G ss cs Qd Ed := fun ss cs Qd Ed h _ => by
  unfold sp1 at h; split at h <;> first | exact k _ _ _ _ h | exact h.elim
theorem e2 {f} {G : List Sl → Sto → DK → DXF → Prop} {m : Nat} (k : ∀ a b cs Qd Ed, f a b cs Qd Ed → G [a, b] cs Qd Ed) : ∀ ss cs Qd Ed, sp2 f ss cs Qd Ed → ss.length = m → G ss cs Qd Ed := fun ss cs Qd Ed h _ => by
  unfold sp2 at h; split at h <;> first | exact k _ _ _ _ _ h | exact h.elim
theorem e3 {f} {G : List Sl → Sto → DK → DXF → Prop} {m : Nat} (k : ∀ a b c cs Qd Ed, f a b c cs Qd Ed → G [a, b, c] cs Qd Ed) : ∀ ss cs Qd Ed, sp3 f ss cs Qd Ed → ss.length = m → G ss cs Qd Ed := fun ss cs Qd Ed h _ => by
  unfold sp3 at h; split at h <;> first | exact k _ _ _ _ _ _ h | exact h.elim
theorem e4 {f} {G : List Sl → Sto → DK → DXF → Prop} {m : Nat} (k : ∀ a b c d cs Qd Ed, f a b c d cs Qd Ed → G [a, b, c, d] cs Qd Ed) : ∀ ss cs Qd Ed, sp4 f ss cs Qd Ed → ss.length = m → G ss cs Qd Ed := fun ss cs Qd Ed h _ => by
  unfold sp4 at h; split at h <;> first | exact k _ _ _ _ _ _ _ h | exact h.elim
class PenC extends TabC where
  P : Nat → Ct → Prop
  mono : ∀ {n m : Nat} {c : Ct}, P n c → n ≤ m → P m c
  cl : ∀ {n k : Nat} {c : Ct}, P n c → Cl k c
  live : ∀ {n : Nat} {c : Ct}, P n c → c.live
  nr : ∀ {n k : Nat} {c : Ct}, P n c → NoRef k c
variable [PenC]
def Pen (n : Nat) (c : Ct) : Prop := PenC.P n c
theorem Pen.mono {n m : Nat} {c : Ct} (h : Pen n c) (le : n ≤ m) : Pen m c := PenC.mono h le
theorem Pen.cl {n k : Nat} {c : Ct} (h : Pen n c) : Cl k c := PenC.cl h
theorem Pen.live {n : Nat} {c : Ct} (h : Pen n c) : c.live := PenC.live h
theorem Pen.nr {n k : Nat} {c : Ct} (h : Pen n c) : NoRef k c := PenC.nr h
def PenL (n : Nat) (c : Ct) : Prop := ∃ (ds : List Int) (i l : Int), c = .lst [.list (ds.map .int), .int i, .int l] ∧ ds.length ≤ 63 ∧ 0 ≤ i ∧ i ≤ n ∧ 0 ≤ l
@[reducible] def penL (T : List (Addr × Str)) (kw : Prop := True) : PenC where
  T := T
  kw := kw
  P := PenL
  mono := fun h le => by
    obtain ⟨ds, i, l, e, h1, h2, h3, h4⟩ := h
    exact ⟨ds, i, l, e, h1, h2, by omega, h4⟩
  cl := fun h => by
    obtain ⟨ds, i, l, rfl, _⟩ := h
    trivial
  live := fun h => by
    obtain ⟨ds, i, l, rfl, _⟩ := h
    trivial
  nr := fun h => by
    obtain ⟨ds, i, l, rfl, _⟩ := h
    trivial
def PenE (n : Nat) (c : Ct) : Prop := ∃ (ds : List Int) (i l : Int), c = .dK [(.inr "cells", .list (ds.map .int)), (.inr "at", .int i), (.inr "left", .int l)] ∧ ds.length ≤ 63 ∧ 0 ≤ i ∧ i ≤ n ∧ 0 ≤ l
@[reducible] def penE (T : List (Addr × Str)) (kw : Prop := True) : PenC where
  T := T
  kw := kw
  P := PenE
  mono := fun h le => by
    obtain ⟨ds, i, l, e, h1, h2, h3, h4⟩ := h
    exact ⟨ds, i, l, e, h1, h2, by omega, h4⟩
  cl := fun h => by
    obtain ⟨ds, i, l, rfl, _⟩ := h
    trivial
  live := fun h => by
    obtain ⟨ds, i, l, rfl, _⟩ := h
    trivial
  nr := fun h => by
    obtain ⟨ds, i, l, rfl, _⟩ := h
    trivial
def sp_pen : DSp := sp1 fun a cs Q Ed => ∃ ns, a = .f ns ∧ cs = [] ∧ ∀ c, Pen 0 c → Q (.o 0) [c]
def sp_draw : DSp := sp2 fun a b cs Q Ed => ∃ c n m, a = .o 0 ∧ b = .d (.int m) ∧ cs = [c] ∧ Pen n c ∧ n ≤ 100000000 ∧ 0 < m ∧ m < 2 ^ 64 ∧ ∀ c' r, Pen (n + 1) c' → 0 ≤ r → r < m → Q (.d (.int r)) [c']
theorem pen_call {ns : List Int} {st : Sto} {Q : DK} {Ed : DXF} (k : ∀ c, Pen 0 c → Q (.o st.length) (st ++ [c])) : locCall sp_pen [.f ns] st Q Ed := by
  simp only [locCall, hsOf, getAll, List.map, locS, sp_pen, sp1]
  refine ⟨fun _ m => (by cases m), ns, rfl, trivial, fun c p => ⟨fun z m => ?_, ?_⟩⟩
  · cases List.mem_singleton.mp m
    exact p.cl
  · simpa [gloS, putAll] using k c p
theorem cdw {i j : Int} (h0 : 0 < j) (h1 : j < 2 ^ 64) : CDivW i j := ⟨h0, by
  have : j.natAbs < 2 ^ 64 := by omega
  have := (Nat.log2_lt (by omega)).mpr this
  omega⟩
theorem small {i : Int} (h0 : 0 ≤ i) (h1 : i < 2 ^ 64) : SmallI i := ⟨by omega, h1⟩
theorem cpow {i j : Int} (h0 : 0 ≤ i) (h1 : i < 2 ^ 64) (h2 : 0 ≤ j) (h3 : j ≤ 1000000) : CPow i j := ⟨h2, h3, by omega⟩
end Pz
set_option maxRecDepth 100000
namespace Pz
open PySem PySem.Spec PyProof.Rows L2 TL
variable [PenC]
variable {α : Type} {a b c d : α} {l : List α} {n : Nat} {x : PyData} {C : Ct} {ds : List PyData} {st : Sto} {Q : DK}
theorem ixN_lt {k : Nat} {i : Int} (h0 : 0 ≤ i) (h1 : i < k) : ixN k i = some i.toNat := by
  unfold ixN
  rw [if_pos h0, if_pos h1]
theorem atI_at {xs : List α} {i : Int} (h0 : 0 ≤ i) (h1 : i < xs.length) : atI xs i = xs[i.toNat]? := by
  unfold atI
  rw [ixN_lt h0 h1]
  rfl
theorem at0 : atI (a :: l) 0 = some a := by rw [atI_at (by omega) (by rw [List.length_cons]; omega)]; rfl
theorem at1 : atI (a :: b :: l) 1 = some b := by rw [atI_at (by omega) (by rw [List.length_cons, List.length_cons]; omega)]; rfl
theorem at2 : atI (a :: b :: c :: l) 2 = some c := by rw [atI_at (by omega) (by rw [List.length_cons, List.length_cons, List.length_cons]; omega)]; rfl
theorem at3 : atI (a :: b :: c :: d :: l) 3 = some d := by rw [atI_at (by omega) (by rw [List.length_cons, List.length_cons, List.length_cons, List.length_cons]; omega)]; rfl
theorem len1 : [a].length = 1 := rfl
theorem len2 : [a, b].length = 2 := rfl
theorem len3 : [a, b, c].length = 3 := rfl
theorem ix10 : ixN 1 0 = some 0 := rfl
theorem ix20 : ixN 2 0 = some 0 := rfl
theorem ix21 : ixN 2 1 = some 1 := rfl
theorem ix30 : ixN 3 0 = some 0 := rfl
theorem ix31 : ixN 3 1 = some 1 := rfl
theorem ix32 : ixN 3 2 = some 2 := rfl
theorem sh_int {i : Int} : SeqAt.shaped (.int i) = true := rfl
theorem sh_bl {i : Bool} : SeqAt.shaped (.bool i) = true := rfl
theorem sh_non : SeqAt.shaped .none = true := rfl
theorem eqv_int {i j : Int} : PyData.eqv (.int i) (.int j) = decide (i = j) := rfl
theorem eqv_str {i j : Str} : PyData.eqv (.str i) (.str j) = decide (i = j) := by
  show (i == j) = _
  by_cases h : i = j <;> simp [h]
theorem ret1_d : Ret 1 (.d x) (C :: st) Q = (Cl 1 C ∧ Q (.d x) [C]) := by simp [Ret]
theorem ret1_o0 : Ret 1 (.o 0) (C :: st) Q = (Cl 1 C ∧ Q (.o 0) [C]) := by simp [Ret]
theorem ret1_o1 : Ret 1 (.o 1) (C :: .lst ds :: st) Q = (Cl 1 C ∧ Q (.o 1) [C, .lst ds]) := by simp [Ret, Ct.live, Cl]
theorem ret0_o0 : Ret 0 (.o 0) (.lst ds :: st) Q = Q (.o 0) [.lst ds] := by simp [Ret, Ct.live, Cl]
theorem cl_lst : Cl n (.lst ds) = True := rfl
theorem sh_str {z : Str} (hz : PyData.strOk z = true) : SeqAt.shaped (.str z) = true := by
  simp [SeqAt.shaped, PyData.canLay0, hz, PyData.depth]
theorem eqv_nil {ns : List Int} : PyData.eqv (.list (ns.map .int)) (.list []) = ns.isEmpty := by
  cases ns <;> rfl
theorem canLay_ints : ∀ ns : List Int, PyData.canLayAll0 (ns.map .int) = true
  | [] => rfl
  | n :: ns => by simp [PyData.canLayAll0, PyData.canLay0, canLay_ints ns]
theorem depth_ints : ∀ ns : List Int, PyData.depthAll (ns.map .int) = 0
  | [] => rfl
  | n :: ns => by simp [PyData.depthAll, PyData.depth, depth_ints ns]
theorem sh_ints {ns : List Int} : SeqAt.shaped (.list (ns.map .int)) = true := by
  simp [SeqAt.shaped, PyData.canLay0, canLay_ints, PyData.depth, depth_ints]
theorem sh_nil : SeqAt.shaped (.list []) = true := rfl
section
variable {β : Type} {args : β → List Sl} {pre : β → Prop} {post : β → PyData → Prop} {N : List Str} {m k : Nat} {τ : DS}
def spD (args : β → List Sl) (pre : β → Prop) (post : β → PyData → Prop) : DSp := fun ss cs Q Ed => ∃ b, ss = args b ∧ cs = [] ∧ pre b ∧ ∀ d, post b d → Q (.d d) []
def spP (k : Nat) (args : β → List Sl) (pre : β → Prop) (post : β → PyData → Prop) : DSp := fun ss cs Q Ed => ∃ b c n, ss = .o 0 :: args b ∧ cs = [c] ∧ Pen n c ∧ n + k ≤ 100000000 ∧ pre b ∧ ∀ c' d, Pen (n + k) c' → post b d → Q (.d d) [c']
theorem lD (h : ∀ b, (args b).length = m) : ∀ ss cs Q Ed, spD args pre post ss cs Q Ed → ss.length = m := by
  rintro ss cs Q Ed ⟨b, rfl, _⟩
  exact h b
theorem lP (h : ∀ b, (Sl.o 0 :: args b).length = m) : ∀ ss cs Q Ed, spP k args pre post ss cs Q Ed → ss.length = m := by
  rintro ss cs Q Ed ⟨b, c, n, rfl, _⟩
  exact h b
end
def Ints (P : Int → Prop) (ds : List PyData) : Prop := ∀ d ∈ ds, ∃ x, d = .int x ∧ P x
theorem Ints.map {P : Int → Prop} : ∀ {ds : List PyData}, Ints P ds → ∃ ns : List Int, ds = ns.map .int ∧ ∀ x ∈ ns, P x
  | [], _ => ⟨[], rfl, fun _ m => by cases m⟩
  | d :: ds, h => by
    obtain ⟨x, rfl, px⟩ := h d List.mem_cons_self
    obtain ⟨ns, rfl, q⟩ := Ints.map (fun z m => h z (List.mem_cons_of_mem _ m))
    exact ⟨x :: ns, rfl, fun y m => by exact (List.mem_cons.mp m).elim (fun e => e ▸ px) (q y)⟩
theorem Ints.app {P : Int → Prop} {ds es : List PyData} (h1 : Ints P ds) (h2 : Ints P es) : Ints P (ds ++ es) := fun d m => (List.mem_append.mp m).elim (h1 d) (h2 d)
theorem Ints.one {P : Int → Prop} {x : Int} (h : P x) : Ints P [.int x] := fun d m => ⟨x, List.mem_singleton.mp m, h⟩
theorem Ints.nil {P : Int → Prop} : Ints P [] := fun d m => by cases m
theorem len_rng {n : Nat} {lo : Int} : (rng lo n).length = n := by simp [rng]
theorem strOk_iff {z : Str} : PyData.strOk z = true ↔ ∀ c ∈ tl z, c < 0x110000 := by
  unfold PyData.strOk tl
  rw [Array.all_eq_true_iff_forall_mem]
  simp
theorem strOk_add {x y : Str} (h1 : PyData.strOk x = true) (h2 : PyData.strOk y = true) : PyData.strOk (x ++ y) = true := by
  rw [strOk_iff] at *
  rw [show tl (x ++ y) = tl x ++ tl y from tl_append x y]
  exact fun c m => (List.mem_append.mp m).elim (h1 c) (h2 c)
theorem strOk_mul {x : Str} {n : Int} (h1 : PyData.strOk x = true) : PyData.strOk (Txt.mul x n) = true := by
  rw [strOk_iff] at *
  rw [tl_mul]
  intro c m
  obtain ⟨l, m1, m2⟩ := List.mem_flatten.mp m
  rw [(List.mem_replicate.mp m1).2] at m2
  exact h1 c m2
theorem len_tl {x : Str} : x.length = (tl x).length := by simp [tl, Str.length]
theorem len_add {x y : Str} : (x ++ y).length = x.length + y.length := by rw [len_tl, len_tl, len_tl, show tl (x ++ y) = tl x ++ tl y from tl_append x y, List.length_append]
theorem len_mul {x : Str} {n : Int} : (Txt.mul x n).length = n.toNat * x.length := by
  rw [len_tl, len_tl, tl_mul, List.length_flatten, List.map_replicate]
  simp
theorem tl_lit {s : String} : tl (Str.ofString s) = s.toList.map Char.toNat := by rw [Str.ofString_eq_toList]
theorem strOk_lit {s : String} : PyData.strOk (Str.ofString s) = true := by
  rw [strOk_iff, tl_lit]
  intro c m
  obtain ⟨x, _, rfl⟩ := List.mem_map.mp m
  have := x.valid
  rcases this with h | h
  · exact Nat.lt_trans h (by decide)
  · exact h.2
theorem sh_lit {s : String} : SeqAt.shaped (.str (Str.ofString s)) = true := sh_str strOk_lit
theorem len_lit {s : String} : (Str.ofString s).length = s.length := by rw [len_tl, tl_lit, List.length_map, String.length_toList]
theorem int_len {i : Int} (h : i.natAbs < 10 ^ 100) : (PyData.shown (.int i)).length ≤ 101 := by
  unfold PyData.shown
  show (Str.ofString (toString i)).length ≤ 101
  rw [len_lit]
  cases i with
  | ofNat n => exact Nat.le_trans ((Nat.length_repr_le_iff (n := n) (by decide : 0 < 100)).mpr (by simpa using h)) (by decide)
  | negSucc n =>
    have := (Nat.length_repr_le_iff (n := n + 1) (by decide : 0 < 100)).mpr (by simpa [Int.natAbs] using h)
    show ("-" ++ Nat.repr (n + 1)).length ≤ 101
    rw [String.length_append]
    have e : "-".length = 1 := by decide +kernel
    omega
theorem int_show {i : Int} (h : i.natAbs < 10 ^ 100) : (PyData.int i).showable = true := by
  have : i.natAbs.log2 < 1920 := by
    by_cases z : i.natAbs = 0
    · rw [z]; decide
    · exact (Nat.log2_lt z).mpr (Nat.lt_of_lt_of_le h (by decide +kernel))
  simpa [PyData.showable] using this
theorem ixN_m1 {k : Nat} (h : 0 < k) : ixN k (-1) = some (k - 1) := by
  unfold ixN
  rw [if_neg (by omega), if_pos (by omega)]
  congr 1
  omega
theorem eqv_self_str {z : Str} : PyData.eqv (.str z) (.str z) = true := by rw [eqv_str]; simp
theorem p10_3 : (10 : Int) ^ Int.toNat 3 = 1000 := (Int.natCast_pow 10 (Int.toNat 3)).symm.trans (congrArg Int.ofNat (by decide +kernel : 10 ^ Int.toNat 3 = 1000))
theorem p10_6 : (10 : Int) ^ Int.toNat 6 = 1000000 := (Int.natCast_pow 10 (Int.toNat 6)).symm.trans (congrArg Int.ofNat (by decide +kernel : 10 ^ Int.toNat 6 = 1000000))
theorem p10_7 : (10 : Int) ^ Int.toNat 7 = 10000000 := (Int.natCast_pow 10 (Int.toNat 7)).symm.trans (congrArg Int.ofNat (by decide +kernel : 10 ^ Int.toNat 7 = 10000000))
theorem p10_9 : (10 : Int) ^ Int.toNat 9 = 1000000000 := (Int.natCast_pow 10 (Int.toNat 9)).symm.trans (congrArg Int.ofNat (by decide +kernel : 10 ^ Int.toNat 9 = 1000000000))
theorem p10_12 : (10 : Int) ^ Int.toNat 12 = 1000000000000 := (Int.natCast_pow 10 (Int.toNat 12)).symm.trans (congrArg Int.ofNat (by decide +kernel : 10 ^ Int.toNat 12 = 1000000000000))
section
variable {t u v : DS} {A : DT} {te to ti : DE} {nx bk ct : Sls → Sto → Prop} {rt : DK} {ex : DX} {sl : Sls} {σ : Sto} {i : Nat} {f : Sl → Sl → Sto → DK → Prop} {ω : DI} {g : DG}
theorem seq_mk : wSeq t u ⟨nx, rt, ex, bk, ct⟩ sl σ = t ⟨u ⟨nx, rt, ex, bk, ct⟩, rt, ex, bk, ct⟩ sl σ := rfl
theorem nx_mk : wNext ⟨nx, rt, ex, bk, ct⟩ sl σ = nx sl σ := rfl
theorem bk_mk : wBreak ⟨nx, rt, ex, bk, ct⟩ sl σ = bk sl σ := rfl
theorem ct_mk : wCont ⟨nx, rt, ex, bk, ct⟩ sl σ = ct sl σ := rfl
theorem set_mk : wSet i te ⟨nx, rt, ex, bk, ct⟩ sl σ = te ex sl σ fun s st => nx (sl.set i (some s)) st := rfl
theorem expr_mk : wExpr te ⟨nx, rt, ex, bk, ct⟩ sl σ = te ex sl σ fun _ st => nx sl st := rfl
theorem ret_mk : wRet te ⟨nx, rt, ex, bk, ct⟩ sl σ = te ex sl σ rt := rfl
theorem retN_mk : wRetN ⟨nx, rt, ex, bk, ct⟩ sl σ = rt (.d .none) σ := rfl
theorem if_mk : wIf A u v ⟨nx, rt, ex, bk, ct⟩ sl σ = A ex sl σ fun b st => if b = true then u ⟨nx, rt, ex, bk, ct⟩ sl st else v ⟨nx, rt, ex, bk, ct⟩ sl st := rfl
theorem for_mk : wFor ω g u ⟨nx, rt, ex, bk, ct⟩ sl σ = ω ex sl σ fun ds st => wForL g u ⟨nx, rt, ex, bk, ct⟩ ds sl st := rfl
end
theorem forL_ix {g : DG} {u : DS} {nx bk ct : Sls → Sto → Prop} {rt : DK} {ex : DX} (Inv : List PyData → Sls → Sto → Prop) (h0 : ∀ sl st, Inv [] sl st → nx sl st)
    (h1 : ∀ (R B : Sls → Sto → Prop) d ds sl st, (∀ sl st, Inv ds sl st → R sl st) → Inv (d :: ds) sl st → g (.d d) sl st fun sl st => u ⟨R, rt, ex, B, R⟩ sl st) :
    ∀ ds sl st, Inv ds sl st → wForL g u ⟨nx, rt, ex, bk, ct⟩ ds sl st
  | [], sl, st, h => h0 sl st h
  | d :: ds, sl, st, h => h1 _ nx d ds sl st (fun sl st w => forL_ix (nx := nx) (bk := bk) (ct := ct) Inv h0 h1 ds sl st w) h
theorem ite_all {c p q : Prop} [Decidable c] (hp : p) (hq : q) : if c then p else q := by
  split
  · exact hp
  · exact hq
theorem atI_lt {xs : List α} {i : Int} (h0 : 0 ≤ i) (h1 : i < xs.length) : ∃ y, atI xs i = some y ∧ y ∈ xs := by
  have : i.toNat < xs.length := by omega
  exact ⟨xs[i.toNat], (atI_at h0 h1).trans (List.getElem?_eq_getElem this), List.getElem_mem this⟩
end Pz
set_option maxRecDepth 100000
namespace Pz
open PySem PySem.Spec PyProof.Rows L2 TL
variable [PenC]
section
variable {X : Cx} {E : WXs} {Z0 : Zs} {a b c e : Expr} {es : List Expr} {ta tb tc te : DE} {t : DA} {pos p : Pos} {x : Str} {K : Frag}
def wDeadE : DE := fun _ _ _ _ => False
def wDeadT : DT := fun _ _ _ _ => False
abbrev FD := List Sl → (PyData → Prop) → Prop
def allD : List Sl → Bool
  | [] => true
  | .d _ :: r => allD r
  | _ :: _ => false
structure FOk (f : FD) (n : Nat) : Prop where
  dat : ∀ ss k, f ss k → ss.length = n ∧ allD ss = true
  mono : ∀ ss k k', (∀ d, k d → k' d) → f ss k → f ss k'
theorem hsOf_allD : ∀ {ss : List Sl}, allD ss = true → hsOf ss = []
  | [], _ => rfl
  | .d _ :: r, h => hsOf_allD (ss := r) h
theorem locS_allD {hs : List Nat} : ∀ {ss : List Sl}, allD ss = true → ss.map (locS hs) = ss
  | [], _ => rfl
  | .d _ :: r, h => by
    show _ :: r.map (locS hs) = _
    rw [locS_allD (ss := r) h]
    rfl
def spF (f : FD) : DSp := fun ss cs Q Ed => cs = [] ∧ f ss fun d => Q (.d d) []
def spQ (k : Nat) (f : FD) : DSp := fun ss cs Q Ed => match ss, cs with
  | .o 0 :: r, [c] => ∃ n, Pen n c ∧ n + k ≤ 1000000 ∧ f r fun d => ∀ c', Pen (n + k) c' → Q (.d d) [c']
  | _, _ => False
variable {f : FD} {n k m : Nat} {N : List Str} {τ : DS}
theorem lF (ok : FOk f n) : ∀ ss cs Q Ed, spF f ss cs Q Ed → ss.length = n := fun ss cs Q Ed h => (ok.dat _ _ h.2).1
theorem lQ (ok : FOk f n) : ∀ ss cs Q Ed, spQ k f ss cs Q Ed → ss.length = n + 1 := fun ss cs Q Ed h => by
  unfold spQ at h
  split at h
  · obtain ⟨_, _, _, h⟩ := h
    have := (ok.dat _ _ h).1
    simp [this]
  · exact h.elim
theorem locF (ok : FOk f n) {ss : List Sl} {st : Sto} {Q : DK} {Ed : DXF} (h : f ss fun d => Q (.d d) st) : locCall (spF f) ss st Q Ed := by
  have h1 := (ok.dat _ _ h).2
  simp only [locCall, hsOf_allD h1, getAll, locS_allD h1, spF]
  refine ⟨fun c m => (by cases m), trivial, ok.mono _ _ _ (fun d q => ⟨fun c m => (by cases m), ?_⟩) h⟩
  simpa [gloS, putAll] using q
theorem locQ (ok : FOk f n) {ss : List Sl} {h j : Nat} {c : Ct} {st : Sto} {Q : DK} {Ed : DXF} (e0 : st[h]? = some c) (p : Pen j c) (hn : j + k ≤ 1000000) (hf : f ss fun d => ∀ c', Pen (j + k) c' → Q (.d d) (st.set h c')) : locCall (spQ k f) (.o h :: ss) st Q Ed := by
  have h1 := (ok.dat _ _ hf).2
  have q : getAll st [h] = some [c] := by simp [getAll, e0]
  have q2 : hsOf (.o h :: ss) = [h] := by simp [hsOf, hsOf_allD h1]
  simp only [locCall, q2, q, List.map, locS_allD h1]
  refine ⟨fun z m => by cases List.mem_singleton.mp m; exact p.cl, ?_⟩
  simp only [spQ, locS, List.idxOf_cons_self]
  refine ⟨j, p, hn, ok.mono _ _ _ (fun d w c' p' => ⟨fun z m => by cases List.mem_singleton.mp m; exact p'.cl, ?_⟩) hf⟩
  simpa [gloS, putAll] using w c' p'
def wCallF (f : FD) (t : DA) : DE := fun Ed sl st Q => t Ed sl st fun ss st => f ss fun d => Q (.d d) st
def aQ (k : Nat) (f : FD) (ss : List Sl) (st : Sto) (Q : DK) : Prop := match ss with
  | .o h :: r => ∃ c, st[h]? = some c ∧ ∃ n, Pen n c ∧ n + k ≤ 1000000 ∧ f r fun d => ∀ c', Pen (n + k) c' → Q (.d d) (st.set h c')
  | _ => False
def wCallQ (k : Nat) (f : FD) (t : DA) : DE := fun Ed sl st Q => t Ed sl st fun ss st => aQ k f ss st Q
def wCallA (g : FA) (t : DA) : DE := fun Ed sl st Q => t Ed sl st fun ss st => g ss st Q
variable {dsp : DSp} {fa : Addr} {fd : FuncData} {ps ks : List Str} {kws : List Keyword} {tk : DA} {g : FA}
theorem de_callA (ok : ∀ ss st Q Ed, g ss st Q → locCall dsp ss st Q Ed) (F : FnD X.prog X.w X.K X.mg X.base CX0 k fa fd ps dsp) (hA : X.A.guards = some []) (hr : Room k X.A) (hl : ∀ ss cs Q Ed, dsp ss cs Q Ed → ss.length = ps.length) (hg : Gl X x) (hm : X.mg x = some (.ref fa)) (hk : PySem.W.keepIn X.K (.ref fa) = true) (hb : Binds X.K fd ps [])
    (ha : DAs X E (e :: es) t) (hdb : (x == ("__debug__" : Str)) = false := by decide) (he : starEach (e :: es) X.env = (false, eval e X.env) :: starEach es X.env := by rfl) (hpl : (backTo pos (starEach es X.env)).any (·.1) = false := by rfl) :
    DEx X E (.Call (.Name x p) (e :: es) [] pos) (wCallA g t) :=
  ⟨peI (pe_callG F hA hr hg hm hk hb pass0 ha.run hdb he hpl) fun σ H Q ⟨Z, sl, Qd, Ed, h, ok', so, w, kq, kx⟩ =>
    ⟨Z, sl, _, Ed, h, ok', so, w, fun Z1 vs ss l1 ok1 r1 w1 => by
      show toSp X.K ps.length dsp (vs ++ []) Z1.H Q E0
      rw [List.append_nil]
      have w2 := ok _ _ _ (fun _ _ _ => False) w1
      exact loc_sp ok1 r1 (locCall_len w2 hl) w2 (kq.le l1) (fun _ _ _ _ _ _ _ _ _ z => z), kx⟩⟩
theorem de_callF (ok : FOk f n) (F : FnD X.prog X.w X.K X.mg X.base CX0 k fa fd ps (spF f)) (hA : X.A.guards = some []) (hr : Room k X.A) (hn : n = ps.length) (hg : Gl X x) (hm : X.mg x = some (.ref fa)) (hk : PySem.W.keepIn X.K (.ref fa) = true) (hb : Binds X.K fd ps [])
    (ha : DAs X E (e :: es) t) (hdb : (x == ("__debug__" : Str)) = false := by decide) (he : starEach (e :: es) X.env = (false, eval e X.env) :: starEach es X.env := by rfl) (hpl : (backTo pos (starEach es X.env)).any (·.1) = false := by rfl) :
    DEx X E (.Call (.Name x p) (e :: es) [] pos) (wCallF f t) :=
  de_callA (fun ss st Q Ed h => locF ok h) F hA hr (fun ss cs Q Ed h => hn ▸ lF ok ss cs Q Ed h) hg hm hk hb ha hdb he hpl
theorem aQ_loc (ok : FOk f n) : ∀ ss st Q Ed, aQ m f ss st Q → locCall (spQ m f) ss st Q Ed := fun ss st Q Ed h => by
  unfold aQ at h
  split at h
  · obtain ⟨c, e0, j, p, hn, hf⟩ := h
    exact locQ ok e0 p hn hf
  · exact h.elim
theorem de_callQ (ok : FOk f n) (F : FnD X.prog X.w X.K X.mg X.base CX0 k fa fd ps (spQ m f)) (hA : X.A.guards = some []) (hr : Room k X.A) (hn : n + 1 = ps.length) (hg : Gl X x) (hm : X.mg x = some (.ref fa)) (hk : PySem.W.keepIn X.K (.ref fa) = true) (hb : Binds X.K fd ps [])
    (ha : DAs X E (e :: es) t) (hdb : (x == ("__debug__" : Str)) = false := by decide) (he : starEach (e :: es) X.env = (false, eval e X.env) :: starEach es X.env := by rfl) (hpl : (backTo pos (starEach es X.env)).any (·.1) = false := by rfl) :
    DEx X E (.Call (.Name x p) (e :: es) [] pos) (wCallQ m f t) :=
  de_callA (aQ_loc ok) F hA hr (fun ss cs Q Ed h => hn ▸ lQ ok ss cs Q Ed h) hg hm hk hb ha hdb he hpl
def wCallWF (n m : Nat) (f : FD) (g : ∀ {α : Type}, List α → List α → List α) (t tk : DA) : DE := fun Ed sl st Q => t Ed sl st fun ss st => tk Ed sl st fun zs st => ss.length = n ∧ zs.length = m ∧ f (g ss zs) fun d => Q (.d d) st
variable {gg : ∀ {α : Type}, List α → List α → List α}
abbrev end0 (Qd : DK) : DEnds := ⟨fun _ st => Ret 0 (.d .none) st Qd, fun s st => Ret 0 s st Qd, fun _ _ _ _ => False, fun _ _ => False, fun _ _ => False⟩
abbrev end1 (Qd : DK) : DEnds := ⟨fun _ st => Ret 1 (.d .none) st Qd, fun s st => Ret 1 s st Qd, fun _ _ _ _ => False, fun _ _ => False, fun _ _ => False⟩
theorem hF (h : ∀ (ss : List Sl) (Qd : DK), (f ss fun d => Qd (.d d) []) → τ (end0 Qd) (startS N ss) []) :
    ∀ (ss : List Sl) (cs : Sto) (Qd : DK) (Ed : DXF), spF f ss cs Qd Ed → ss.length = m → cs.length = 0 ∧ τ (end0 Qd) (startS N ss) cs := by
  rintro ss cs Qd Ed ⟨rfl, w⟩ _
  exact ⟨rfl, h ss Qd w⟩
theorem hQ (h : ∀ (ss : List Sl) (c : Ct) (n : Nat) (Qd : DK), Pen n c → n + k ≤ 1000000 → (f ss fun d => ∀ c', Pen (n + k) c' → Qd (.d d) [c']) → τ (end1 Qd) (startS N (.o 0 :: ss)) [c]) :
    ∀ (ss : List Sl) (cs : Sto) (Qd : DK) (Ed : DXF), spQ k f ss cs Qd Ed → ss.length = m → cs.length = 1 ∧ τ (end1 Qd) (startS N ss) cs := by
  rintro ss cs Qd Ed w _
  unfold spQ at w
  split at w
  · obtain ⟨n, p, hn, w⟩ := w
    exact ⟨rfl, h _ _ _ Qd p hn w⟩
  · exact w.elim
def oIn (neg : Bool) (x y : Sl) (st : Sto) (Q : DK) : Prop := match vw st x, vw st y with
  | some d, some (.list ds) => SeqAt.shaped d = true ∧ SeqAt.shaped (.list ds) = true ∧ Q (.d (.bool (if neg then !ds.any fun z => PyData.eqv z d else ds.any fun z => PyData.eqv z d))) st
  | _, _ => False
theorem room65 {k : Nat} {A : Around} (r : Room k A) : A.units + 65 < cLine := by have := r.un; omega
def wRev (te : DE) : DE := fun Ed sl st Q => te Ed sl st fun s st => match vw st s with
  | some (.list ds) => Q (.d (.list ds.reverse)) st
  | _ => False
theorem rp_str {Z : Zs} {vs : List V} {s : Sl} {z : Str} (ra : RpAll K Z vs [s]) (e : vw Z.st s = some (.str z)) : vs = [.str z] := by
  obtain ⟨v, rfl, r⟩ := rp1 ra
  rw [r.str e]
theorem strs_im {W : Addr → Prop} {H : Hp} : ∀ (ns : List Str), ImAll K W H (ns.map V.str) (ns.map .str)
  | [] => .nil
  | n :: ns => .cons (.str n) (strs_im ns)
def mSplit : FM := fun s ss st Q => match ss with
  | [t] => match vw st s, vw st t with
    | some (.str a), some (.str b) => b.length ≠ 0 ∧ a.length + 2 ≤ sizeLine ∧ Q (.d (.list ((Txt.split a b).map .str))) st
    | _, _ => False
  | _ => False
theorem md_split : MetD K (fun x xs H Q => ∃ a b, x = .str a ∧ xs = [.str b] ∧ (b.length == 0) = false ∧ a.length + 2 ≤ sizeLine ∧ rNewStrs (Txt.split a b) H Q) mSplit := by
  intro Z v s vs ss Qd Q ok rs ra w k
  unfold mSplit at w
  split at w
  · split at w
    · rename_i a b e1 e2
      exact ⟨a, b, rs.str e1, rp_str ra e2, by simpa using w.1, w.2.1, k.newL ok (strs_im _) w.2.2⟩
    · exact w.elim
  · exact w.elim
def asStrs : List PyData → Option (List Str)
  | [] => some []
  | .str z :: r => (asStrs r).map (z :: ·)
  | _ => none
theorem asStrs_map : ∀ ns : List Str, asStrs (ns.map PyData.str) = some ns
  | [] => rfl
  | n :: ns => by simp [asStrs, asStrs_map ns]
theorem asStrs_eq : ∀ {ds : List PyData} {ns : List Str}, asStrs ds = some ns → ds = ns.map .str
  | [], ns, h => by cases h; rfl
  | .str z :: r, ns, h => by
    simp only [asStrs, Option.map_eq_some_iff] at h
    obtain ⟨l, e, rfl⟩ := h
    rw [asStrs_eq e]; rfl
theorem im_strs {W : Addr → Prop} {H : Hp} : ∀ {vs : List V} {ns : List Str}, ImAll K W H vs (ns.map .str) → vs = ns.map V.str
  | _, [], h => by cases h; rfl
  | _, n :: ns, h => by
    cases h with
    | cons a b => cases a; rw [im_strs b]; rfl
def vwS (st : Sto) (s : Sl) : Option (List Str) := match vw st s with
  | some (.list ds) => asStrs ds
  | some (.tuple ds) => asStrs ds
  | _ => none
def mJoin : FM := fun s ss st Q => match ss with
  | [t] => match vw st s, vwS st t with
    | some (.str a), some ys => (ys.map (·.length)).sum + ys.length * a.length ≤ 16777216 ∧ Q (.d (.str (Txt.join a ys))) st
    | _, _ => False
  | _ => False
theorem md_join : MetD K (fun x xs H Q => ∃ a p, ∃ ys : List Str, x = .str a ∧ xs = [.ref p] ∧ (SqL K H p (ys.map V.str) ∨ SqT K H p (ys.map V.str)) ∧
    (ys.map (·.length)).sum + ys.length * a.length ≤ 16777216 ∧ Q (.str (Txt.join a ys)) H) mJoin := by
  intro Z v s vs ss Qd Q ok rs ra w k
  unfold mJoin at w
  split at w
  · split at w
    · rename_i a ys e1 e2
      obtain ⟨v, rfl, r⟩ := rp1 ra
      unfold vwS at e2
      split at e2
      · rename_i ds e3
        obtain ⟨p, xs, rfl, q, r'⟩ := r.list ok e3
        rw [asStrs_eq e2] at r'
        rw [im_strs r'] at q
        exact ⟨a, p, ys, rs.str e1, rfl, .inl (.of q), w.1, k.now ok (.str _) w.2⟩
      · rename_i ds e3
        obtain ⟨p, xs, rfl, q, r'⟩ := r.tuple e3
        rw [asStrs_eq e2] at r'
        rw [im_strs r'] at q
        exact ⟨a, p, ys, rs.str e1, rfl, .inr q.sq, w.1, k.now ok (.str _) w.2⟩
      · cases e2
    · exact w.elim
  · exact w.elim
end
end Pz
set_option maxRecDepth 100000
namespace Pz
open PySem PySem.Spec PyProof.Rows L2 TL
variable [PenC]
theorem wC_ap {s : Sl} {u0 : DX} {u1 : Sls} {st : Sto} {Q : DK} : wC s u0 u1 st Q = (Q s st) := rfl
theorem wVar_ap {i : Nat} {u0 : DX} {sl : Sls} {st : Sto} {Q : DK} : wVar i u0 sl st Q = (match nthS sl i with
  | some s => Q s st
  | none => False) := rfl
theorem wOp_ap {f : Sl → Sl → Sto → DK → Prop} {ta tb : DE} {Ed : DX} {sl : Sls} {st : Sto} {Q : DK} : wOp f ta tb Ed sl st Q = (ta Ed sl st fun x st => tb Ed sl st fun y st => f x y st Q) := rfl
theorem wTest_ap {t : DE} {Ed : DX} {sl : Sls} {st : Sto} {Q : Bool → Sto → Prop} : wTest t Ed sl st Q = (t Ed sl st fun s st => match s with
  | .d (.bool b) => Q b st
  | _ => False) := rfl
theorem wNil_ap  {u0 : DX} {u1 : Sls} {st : Sto} {Q : List Sl → Sto → Prop} : wNil  u0 u1 st Q = (Q [] st) := rfl
theorem wCons_ap {te : DE} {t : DA} {Ed : DX} {sl : Sls} {st : Sto} {Q : List Sl → Sto → Prop} : wCons te t Ed sl st Q = (te Ed sl st fun x st => t Ed sl st fun xs st => Q (x :: xs) st) := rfl
theorem wCall_ap {dsp : DSp} {t : DA} {Ed : DX} {sl : Sls} {st : Sto} {Q : DK} : wCall dsp t Ed sl st Q = (t Ed sl st fun ss st => locCall dsp ss st Q fun _ _ _ => False) := rfl
theorem wCallW_ap {n m : Nat} {dsp : DSp} {g : ∀ {α : Type}, List α → List α → List α} {t tk : DA} {Ed : DX} {sl : Sls} {st : Sto} {Q : DK} : wCallW n m dsp g t tk Ed sl st Q = (t Ed sl st fun ss st => tk Ed sl st fun zs st => ss.length = n ∧ zs.length = m ∧ locCall dsp (g ss zs) st Q fun _ _ _ => False) := rfl
theorem wApp_ap {f : FA} {t : DA} {Ed : DX} {sl : Sls} {st : Sto} {Q : DK} : wApp f t Ed sl st Q = (t Ed sl st fun ss st => f ss st Q) := rfl
theorem wLst_ap {t : DA} {Ed : DX} {sl : Sls} {st : Sto} {Q : DK} : wLst t Ed sl st Q = (t Ed sl st fun ss st => match dsOf ss with
  | some ds => ds.length ≤ sizeLine ∧ Q (.d (.list ds)) st
  | none => False) := rfl
theorem wTup_ap {t : DA} {Ed : DX} {sl : Sls} {st : Sto} {Q : DK} : wTup t Ed sl st Q = (t Ed sl st fun ss st => match dsOf ss with
  | some ds => ds.length ≤ sizeLine ∧ Q (.d (.tuple ds)) st
  | none => False) := rfl
theorem wLstO_ap {t : DA} {Ed : DX} {sl : Sls} {st : Sto} {Q : DK} : wLstO t Ed sl st Q = (t Ed sl st fun ss st => match dsOf ss with
  | some ds => ds.length ≤ sizeLine ∧ Q (.o st.length) (st ++ [.lst ds])
  | none => False) := rfl
theorem wNoPart_ap  {u0 : DX} {u1 : Sls} {st : Sto} {Q : Option Int → Sto → Prop} : wNoPart  u0 u1 st Q = (Q none st) := rfl
theorem wPart_ap {te : DE} {Ed : DX} {sl : Sls} {st : Sto} {Q : Option Int → Sto → Prop} : wPart te Ed sl st Q = (te Ed sl st fun s st => match vw st s with
  | some (.int i) => Q (some i) st
  | _ => False) := rfl
theorem wSl_ap {te : DE} {tl th : DO} {Ed : DX} {sl : Sls} {st : Sto} {Q : DK} : wSl te tl th Ed sl st Q = (te Ed sl st fun s st => tl Ed sl st fun lo st => th Ed sl st fun hi st => oSl s lo hi st Q) := rfl
theorem wAnd_ap {t u : DT} {Ed : DX} {sl : Sls} {st : Sto} {Q : Bool → Sto → Prop} : wAnd t u Ed sl st Q = (t Ed sl st fun b st => if b = true then u Ed sl st Q else Q false st) := rfl
theorem wOr_ap {t u : DT} {Ed : DX} {sl : Sls} {st : Sto} {Q : Bool → Sto → Prop} : wOr t u Ed sl st Q = (t Ed sl st fun b st => if b = true then Q true st else u Ed sl st Q) := rfl
theorem wNot_ap {t : DT} {Ed : DX} {sl : Sls} {st : Sto} {Q : Bool → Sto → Prop} : wNot t Ed sl st Q = (t Ed sl st fun b st => Q (!b) st) := rfl
theorem wAndV_ap {ta tb : DE} {Ed : DX} {sl : Sls} {st : Sto} {Q : DK} : wAndV ta tb Ed sl st Q = (ta Ed sl st fun s st => match s with
  | .d (.bool b) => if b = true then tb Ed sl st Q else Q (.d (.bool false)) st
  | _ => False) := rfl
theorem wOrV_ap {ta tb : DE} {Ed : DX} {sl : Sls} {st : Sto} {Q : DK} : wOrV ta tb Ed sl st Q = (ta Ed sl st fun s st => match s with
  | .d (.bool b) => if b = true then Q (.d (.bool true)) st else tb Ed sl st Q
  | _ => False) := rfl
theorem wNotV_ap {ta : DE} {Ed : DX} {sl : Sls} {st : Sto} {Q : DK} : wNotV ta Ed sl st Q = (ta Ed sl st fun s st => match s with
  | .d (.bool b) => Q (.d (.bool (!b))) st
  | _ => False) := rfl
theorem wIfE_ap {t : DT} {ta tb : DE} {Ed : DX} {sl : Sls} {st : Sto} {Q : DK} : wIfE t ta tb Ed sl st Q = (t Ed sl st fun b st => if b = true then ta Ed sl st Q else tb Ed sl st Q) := rfl
theorem wTru_ap {te : DE} {Ed : DX} {sl : Sls} {st : Sto} {Q : Bool → Sto → Prop} : wTru te Ed sl st Q = (te Ed sl st fun s st => match truD st s with
  | some b => Q b st
  | none => False) := rfl
theorem wChain_ap {f g : Sl → Sl → Sto → DK → Prop} {ta tb tc : DE} {Ed : DX} {sl : Sls} {st : Sto} {Q : DK} : wChain f g ta tb tc Ed sl st Q = (ta Ed sl st fun x st => tb Ed sl st fun y st => f x y st fun z st => match z with
  | .d (.bool b) => if b = true then tc Ed sl st fun w st => g y w st Q else Q (.d (.bool false)) st
  | _ => False) := rfl
theorem wNeg_ap {ta : DE} {Ed : DX} {sl : Sls} {st : Sto} {Q : DK} : wNeg ta Ed sl st Q = (ta Ed sl st fun s st => match vw st s with
  | some (.int i) => Q (.d (.int (-i))) st
  | _ => False) := rfl
theorem wAug_ap {i : Nat} {f : Sl → Sl → Sto → DK → Prop} {te : DE} {nx bk ct : Sls → Sto → Prop} {rt : DK} {ex : DX} {sl : Sls} {st : Sto} : wAug i f te ⟨nx, rt, ex, bk, ct⟩ sl st = (match nthS sl i with
  | some s => te ex sl st fun t st => f s t st fun z st => nx (sl.set i (some z)) st
  | none => False) := rfl
theorem gNm_ap {i : Nat} {s : Sl} {sl : Sls} {st : Sto} {Q : Sls → Sto → Prop} : gNm i s sl st Q = (Q (sl.set i (some s)) st) := rfl
theorem gNl_ap  {ds : List PyData} {sl : Sls} {st : Sto} {Q : Sls → Sto → Prop} : gNl  ds sl st Q = (match ds with
  | [] => Q sl st
  | _ => False) := rfl
theorem gCn_ap {g : DG} {gs : DGL} {ds : List PyData} {sl : Sls} {st : Sto} {Q : Sls → Sto → Prop} : gCn g gs ds sl st Q = (match ds with
  | d :: ds => g (.d d) sl st fun sl st => gs ds sl st Q
  | [] => False) := rfl
theorem gTp_ap {n : Nat} {gs : DGL} {s : Sl} {sl : Sls} {st : Sto} {Q : Sls → Sto → Prop} : gTp n gs s sl st Q = (match vw st s with
  | some (.tuple ds) => ds.length = n ∧ gs ds sl st Q
  | _ => False) := rfl
theorem wAsg_ap {te : DE} {g : DG} {nx bk ct : Sls → Sto → Prop} {rt : DK} {ex : DX} {sl : Sls} {st : Sto} : wAsg te g ⟨nx, rt, ex, bk, ct⟩ sl st = (te ex sl st fun s st => g s sl st nx) := rfl
theorem wItE_ap {te : DE} {Ed : DX} {sl : Sls} {st : Sto} {Q : List PyData → Sto → Prop} : wItE te Ed sl st Q = (te Ed sl st fun s st => match s with
  | .d (.list ds) => Q ds st
  | .d (.tuple ds) => Q ds st
  | .d (.str z) => Q (signs z) st
  | _ => False) := rfl
theorem wRng1_ap {t : DA} {Ed : DX} {sl : Sls} {st : Sto} {Q : List PyData → Sto → Prop} : wRng1 t Ed sl st Q = (t Ed sl st fun ss st => match ss with
  | [s] => match vw st s with
    | some (.int j) => -(2 ^ 62) ≤ j ∧ j < 2 ^ 62 ∧ Q (rng 0 j.toNat) st
    | _ => False
  | _ => False) := rfl
theorem wRng2_ap {t : DA} {Ed : DX} {sl : Sls} {st : Sto} {Q : List PyData → Sto → Prop} : wRng2 t Ed sl st Q = (t Ed sl st fun ss st => match ss with
  | [s, s'] => match vw st s, vw st s' with
    | some (.int i), some (.int j) => (-(2 ^ 62) ≤ i ∧ i < 2 ^ 62 ∧ -(2 ^ 62) ≤ j ∧ j < 2 ^ 62) ∧ Q (rng i (j - i).toNat) st
    | _, _ => False
  | _ => False) := rfl
theorem wYes_ap  {u0 : DX} {u1 : Sls} {st : Sto} {Q : Bool → Sto → Prop} : wYes  u0 u1 st Q = (Q true st) := rfl
theorem wLc_ap {ω : DI} {g : DG} {tt : DT} {te : DE} {vs : List Nat} {Ed : DX} {sl : Sls} {st : Sto} {Q : DK} : wLc ω g tt te vs Ed sl st Q = (ω Ed sl st fun ds st => wLcL g tt te (wipeS sl vs) ds [] st fun acc st => Q (.d (.list acc)) st) := rfl
theorem wLcO_ap {ω : DI} {g : DG} {tt : DT} {te : DE} {vs : List Nat} {Ed : DX} {sl : Sls} {st : Sto} {Q : DK} : wLcO ω g tt te vs Ed sl st Q = (ω Ed sl st fun ds st => wLcL g tt te (wipeS sl vs) ds [] st fun acc st => Q (.o st.length) (st ++ [.lst acc])) := rfl
theorem wBM_ap {T : String} {f : FM} {to : DE} {t : DA} {Ed : DX} {sl : Sls} {st : Sto} {Q : DK} : wBM T f to t Ed sl st Q = (to Ed sl st fun s st => tyD T st s ∧ t Ed sl st fun ss st => f s ss st Q) := rfl
theorem wSetIx_ap {te to ti : DE} {nx bk ct : Sls → Sto → Prop} {rt : DK} {ex : DX} {sl : Sls} {st : Sto} : wSetIx te to ti ⟨nx, rt, ex, bk, ct⟩ sl st = (te ex sl st fun v st => to ex sl st fun o st => ti ex sl st fun i st => match o, v, i with
  | .o h, .d y, .d (.int j) => match st[h]? with
    | some (.lst ds) => match ixN ds.length j with
      | some n => nx sl (st.set h (.lst (ds.set n y)))
      | none => False
    | _ => False
  | _, _, _ => False) := rfl
theorem wFrz_ap {n0 i : Nat} {u : DS} {nx bk ct : Sls → Sto → Prop} {rt : DK} {ex : DX} {sl : Sls} {st : Sto} : wFrz n0 i u ⟨nx, rt, ex, bk, ct⟩ sl st = (match nthS sl i with
  | some (.o h) => match st[h]? with
    | some (.lst ds) => n0 ≤ h ∧ (∀ c ∈ st, NoRef h c) ∧ u ⟨nx, rt, ex, bk, ct⟩ (sl.map (frzS h ds)) (st.set h .dead)
    | _ => False
  | _ => u ⟨nx, rt, ex, bk, ct⟩ sl st) := rfl
theorem wCallF_ap {f : FD} {t : DA} {Ed : DX} {sl : Sls} {st : Sto} {Q : DK} : wCallF f t Ed sl st Q = (t Ed sl st fun ss st => f ss fun d => Q (.d d) st) := rfl
theorem wCallQ_ap {k : Nat} {f : FD} {t : DA} {Ed : DX} {sl : Sls} {st : Sto} {Q : DK} : wCallQ k f t Ed sl st Q = (t Ed sl st fun ss st => aQ k f ss st Q) := rfl
theorem wCallWF_ap {n m : Nat} {f : FD} {g : ∀ {α : Type}, List α → List α → List α} {t tk : DA} {Ed : DX} {sl : Sls} {st : Sto} {Q : DK} : wCallWF n m f g t tk Ed sl st Q = (t Ed sl st fun ss st => tk Ed sl st fun zs st => ss.length = n ∧ zs.length = m ∧ f (g ss zs) fun d => Q (.d d) st) := rfl
theorem wRev_ap {te : DE} {Ed : DX} {sl : Sls} {st : Sto} {Q : DK} : wRev te Ed sl st Q = (te Ed sl st fun s st => match vw st s with
  | some (.list ds) => Q (.d (.list ds.reverse)) st
  | _ => False) := rfl
end Pz
set_option maxRecDepth 100000
namespace Pz
open PySem PySem.Spec PyProof.Rows L2 TL
variable [PenC]
mutual
def okR : PyData → Bool
  | .none => true
  | .bool _ => true
  | .int i => decide (i.natAbs < 10 ^ 100)
  | .str z => PyData.strOk z
  | .list xs => okRAll xs
  | .tuple xs => okRAll xs
  | .dict _ => false
def okRAll : List PyData → Bool
  | [] => true
  | x :: xs => okR x && okRAll xs
end
theorem chr_ok (q c : Nat) (hq : q < 0x110000) (hc : c < 0x110000) : ∀ x ∈ PySem.Builtin.Str.reprChar q c, x < 0x110000 := by
  have hx : ∀ w : Nat, ∀ x ∈ (List.replicate (w - ((Nat.toDigits 16 c).map Char.toNat).length) 48 ++ (Nat.toDigits 16 c).map Char.toNat), x < 0x110000 := by
    intro w x m
    rcases List.mem_append.mp m with m | m
    · rw [(List.mem_replicate.mp m).2]; decide
    · obtain ⟨y, _, rfl⟩ := List.mem_map.mp m
      have := y.valid
      rcases this with h | h
      · exact Nat.lt_trans h (by decide)
      · exact h.2
  intro x m
  unfold PySem.Builtin.Str.reprChar at m
  dsimp only at m
  repeat' split at m
  all_goals simp only [List.mem_append, List.mem_cons, List.not_mem_nil, or_false] at m
  all_goals first | omega | (rcases m with (m | m) | m <;> first | omega | exact hx _ x (by first | exact List.mem_append.mpr m | simpa using m))
theorem fold_ok (q : Nat) (hq : q < 0x110000) : ∀ (l : List Nat) (acc : Array Nat), (∀ c ∈ l, c < 0x110000) → (∀ c ∈ acc.toList, c < 0x110000) → ∀ c ∈ (l.foldl (fun out c => out ++ (PySem.Builtin.Str.reprChar q c).toArray) acc).toList, c < 0x110000
  | [], acc, _, h2 => h2
  | d :: r, acc, h1, h2 => by
    rw [List.foldl_cons]
    refine fold_ok q hq r _ (fun c m => h1 c (List.mem_cons_of_mem _ m)) fun c m => ?_
    rw [Array.toList_append] at m
    rcases List.mem_append.mp m with m | m
    · exact h2 c m
    · exact chr_ok q d hq (h1 d List.mem_cons_self) c (by simpa using m)
theorem strOk_repr {z : Str} (h : PyData.strOk z = true) : PyData.strOk (reprText z) = true := by
  rw [strOk_iff] at *
  have hq : reprQuote z < 0x110000 := by unfold reprQuote; split <;> decide
  intro c m
  unfold reprText at m
  rw [show tl (⟨(z.cps.foldl (fun out c => out ++ (PySem.Builtin.Str.reprChar (reprQuote z) c).toArray) #[reprQuote z]).push (reprQuote z)⟩ : Str) = ((z.cps.foldl (fun out c => out ++ (PySem.Builtin.Str.reprChar (reprQuote z) c).toArray) #[reprQuote z]).push (reprQuote z)).toList from rfl] at m
  rw [Array.toList_push, ← Array.foldl_toList] at m
  rcases List.mem_append.mp m with m | m
  · exact fold_ok _ hq z.cps.toList #[reprQuote z] h (fun c m => by simp at m; omega) c m
  · simp at m; omega
theorem strOk_from : ∀ (ts : List Str) (k : Nat) (acc : Str), PyData.strOk acc = true → (∀ t ∈ ts, PyData.strOk t = true) → PyData.strOk (textFrom k acc ts) = true
  | [], k, acc, h, _ => h
  | t :: r, k, acc, h, h2 => strOk_from r (k + 1) _ (strOk_add (strOk_add h (by split <;> exact strOk_lit)) (h2 t List.mem_cons_self)) fun x m => h2 x (List.mem_cons_of_mem _ m)
theorem strOk_listText {ts : List Str} (h : ∀ t ∈ ts, PyData.strOk t = true) : PyData.strOk (listText ts) = true := strOk_add (strOk_from ts 0 _ strOk_lit h) strOk_lit
theorem strOk_joinL {a : List Nat} (ha : ∀ c ∈ a, c < 0x110000) : ∀ {ys : List (List Nat)}, (∀ y ∈ ys, ∀ c ∈ y, c < 0x110000) → ∀ c ∈ TL.joinL a ys, c < 0x110000
  | [], _, c, m => by simp [TL.joinL] at m
  | [y], h, c, m => h y (by simp) c (by simpa [TL.joinL] using m)
  | y :: z :: r, h, c, m => by
    simp only [TL.joinL, List.mem_append] at m
    have ih := strOk_joinL ha (ys := z :: r) (fun y m => h y (List.mem_cons_of_mem _ m)) c
    rcases m with m | m
    · first | exact h y (by simp) c m | (rcases m with m | m <;> first | exact h y (by simp) c m | exact ha c m)
    · first | exact ih m | (rcases m with m | m <;> first | exact ha c m | exact ih m)
theorem strOk_strJoin {a : Str} {ts : List Str} (ha : PyData.strOk a = true) (h : ∀ t ∈ ts, PyData.strOk t = true) : PyData.strOk (Str.join a ts) = true := by
  rw [strOk_iff] at *
  rw [TL.tl_join]
  refine strOk_joinL ha fun y m => ?_
  obtain ⟨t, mt, rfl⟩ := List.mem_map.mp m
  exact strOk_iff.mp (h t mt)
theorem strOk_tupleText {ts : List Str} (h : ∀ t ∈ ts, PyData.strOk t = true) : PyData.strOk (tupleText ts) = true := by
  unfold tupleText
  exact strOk_add (strOk_add strOk_lit (strOk_strJoin strOk_lit h)) (by split <;> exact strOk_lit)
mutual
theorem strOk_shown : ∀ {d : PyData}, okR d = true → PyData.strOk d.shown = true
  | .none, _ => by rw [PyData.shown]; exact strOk_lit
  | .bool b, _ => by rw [PyData.shown]; split <;> exact strOk_lit
  | .int i, _ => by rw [PyData.shown]; exact strOk_lit
  | .str z, h => by rw [PyData.shown]; exact strOk_repr (by simpa [okR] using h)
  | .list xs, h => by rw [PyData.shown]; exact strOk_listText (strOk_shownAll (by simpa [okR] using h))
  | .tuple xs, h => by rw [PyData.shown]; exact strOk_tupleText (strOk_shownAll (by simpa [okR] using h))
  | .dict _, h => by simp [okR] at h
theorem strOk_shownAll : ∀ {ds : List PyData}, okRAll ds = true → ∀ t ∈ PyData.shownAll ds, PyData.strOk t = true
  | [], _ => by simp [PyData.shownAll]
  | x :: xs, h => by
    have h' : okR x = true ∧ okRAll xs = true := by simpa [okRAll] using h
    intro t m
    rw [PyData.shownAll] at m
    rcases List.mem_cons.mp m with rfl | m
    · exact strOk_shown h'.1
    · exact strOk_shownAll h'.2 t m
end
mutual
theorem okR_show : ∀ {d : PyData}, okR d = true → d.showable = true
  | .none, _ => by rw [PyData.showable]
  | .bool b, _ => by rw [PyData.showable]
  | .int i, h => int_show (by simpa [okR] using h)
  | .str z, h => by rw [PyData.showable]
  | .list xs, h => by rw [PyData.showable]; exact okR_showAll (by simpa [okR] using h)
  | .tuple xs, h => by rw [PyData.showable]; exact okR_showAll (by simpa [okR] using h)
  | .dict _, h => by simp [okR] at h
theorem okR_showAll : ∀ {ds : List PyData}, okRAll ds = true → PyData.showableAll ds = true
  | [], _ => by rw [PyData.showableAll]
  | x :: xs, h => by
    have h' : okR x = true ∧ okRAll xs = true := by simpa [okRAll] using h
    rw [PyData.showableAll, okR_show h'.1, okR_showAll h'.2]; rfl
end
mutual
theorem okR_dict : ∀ {d : PyData}, okR d = true → d.hasDict = false
  | .none, _ => by rw [PyData.hasDict]
  | .bool b, _ => by rw [PyData.hasDict]
  | .int i, h => by rw [PyData.hasDict]
  | .str z, h => by rw [PyData.hasDict]
  | .list xs, h => by rw [PyData.hasDict]; exact okR_dictAll (by simpa [okR] using h)
  | .tuple xs, h => by rw [PyData.hasDict]; exact okR_dictAll (by simpa [okR] using h)
  | .dict _, h => by simp [okR] at h
theorem okR_dictAll : ∀ {ds : List PyData}, okRAll ds = true → PyData.hasDictAll ds = false
  | [], _ => by rw [PyData.hasDictAll]
  | x :: xs, h => by
    have h' : okR x = true ∧ okRAll xs = true := by simpa [okRAll] using h
    rw [PyData.hasDictAll, okR_dict h'.1, okR_dictAll h'.2]; rfl
end
mutual
theorem okR_short : ∀ {d : PyData}, okR d = true → d.leavesShort 101 = true
  | .none, _ => by rw [PyData.leavesShort]
  | .bool b, _ => by rw [PyData.leavesShort]
  | .int i, h => by rw [PyData.leavesShort]; exact decide_eq_true (int_len (by simpa [okR] using h))
  | .str z, h => by
    rw [PyData.leavesShort, List.all_eq_true]
    intro c m
    have := strOk_iff.mp (by simpa [okR] using h) c m
    exact decide_eq_true (Nat.lt_trans this (by decide))
  | .list xs, h => by rw [PyData.leavesShort]; exact okR_shortAll (by simpa [okR] using h)
  | .tuple xs, h => by rw [PyData.leavesShort]; exact okR_shortAll (by simpa [okR] using h)
  | .dict _, h => by simp [okR] at h
theorem okR_shortAll : ∀ {ds : List PyData}, okRAll ds = true → PyData.leavesShortAll 101 ds = true
  | [], _ => by rw [PyData.leavesShortAll]
  | x :: xs, h => by
    have h' : okR x = true ∧ okRAll xs = true := by simpa [okRAll] using h
    rw [PyData.leavesShortAll, okR_short h'.1, okR_shortAll h'.2]; rfl
end
mutual
def wtR : PyData → Nat
  | .none => 4
  | .bool _ => 5
  | .int _ => 101
  | .str z => 10 * z.length + 2
  | .list xs => wtRAll xs + 3
  | .tuple xs => wtRAll xs + 3
  | .dict _ => 0
def wtRAll : List PyData → Nat
  | [] => 0
  | x :: xs => wtR x + 2 + wtRAll xs
end
mutual
theorem shown_wt : ∀ {d : PyData}, okR d = true → d.shown.length ≤ wtR d
  | .none, _ => by rw [PyData.shown, wtR]; decide
  | .bool b, _ => by rw [PyData.shown, wtR]; cases b <;> decide
  | .int i, h => by rw [wtR]; exact int_len (by simpa [okR] using h)
  | .str z, h => by
    rw [PyData.shown, wtR]
    exact PySem.StrLaws.reprText_len z fun c m => Nat.lt_trans (strOk_iff.mp (by simpa [okR] using h) c m) (by decide)
  | .list xs, h => by
    rw [PyData.shown, wtR]
    have h1 := shown_wtAll (ds := xs) (by simpa [okR] using h)
    have h2 := listText_len_le (PyData.shownAll xs)
    have h3 := PyData.shownAll_length xs
    omega
  | .tuple xs, h => by
    rw [PyData.shown, wtR]
    have h1 := shown_wtAll (ds := xs) (by simpa [okR] using h)
    have h2 := tupleText_len_le (PyData.shownAll xs)
    have h3 := PyData.shownAll_length xs
    omega
  | .dict _, h => by simp [okR] at h
theorem shown_wtAll : ∀ {ds : List PyData}, okRAll ds = true → ((PyData.shownAll ds).map (·.length)).sum + 2 * ds.length ≤ wtRAll ds
  | [], _ => by simp [PyData.shownAll, wtRAll]
  | x :: xs, h => by
    have h' : okR x = true ∧ okRAll xs = true := by simpa [okRAll] using h
    have h1 := shown_wt h'.1
    have h2 := shown_wtAll h'.2
    simp only [PyData.shownAll, wtRAll, List.map_cons, List.sum_cons, List.length_cons]
    omega
end
structure RepOk (d : PyData) : Prop where
  ok : okR d = true ∨ d = .dict []
  wt : wtR d ≤ 16000000
  dp : d.depth ≤ 60
theorem shown_dn : PyData.shown (.dict []) = "{}" := by decide +kernel
theorem RepOk.len {d : PyData} (h : RepOk d) : d.shown.length ≤ sizeLine := by
  rcases h.ok with ho | rfl
  · have := shown_wt ho
    have := h.wt
    simp only [sizeLine]
    omega
  · rw [shown_dn, len_lit]; decide +kernel
theorem RepOk.sh {d : PyData} (h : RepOk d) : SeqAt.shaped (.str d.shown) = true := by
  rcases h.ok with ho | rfl
  · exact sh_str (strOk_shown ho)
  · rw [shown_dn]; exact sh_lit
def fRep : FA := fun ss st Q => match ss with
  | [s] => match vw st s with
    | some d => RepOk d ∧ Q (.d (.str d.shown)) st
    | none => False
  | _ => False
theorem call_reprE {X : Cx} (hA : X.A.guards = some []) (hu : X.A.units + 64 < cLine) : CallR X (.builtin "repr") (fun xs H Q => ∃ a, xs = [.ref a] ∧ H a = some (.dK []) ∧ Q (.str (PyData.shown (.dict []))) H) := by
  intro pins s σ H xs us Q I r h
  obtain ⟨a, rfl, hd, q⟩ := h
  obtain ⟨u, rfl, ru⟩ := vals1 r
  obtain rfl := ru
  have fin : ∀ (h' : Heap) (t : Tok) (k : Nat), (∀ b o, s.heap.get? b = some o → h'.get? b = some o) → EP X pins σ Q (.str (PyData.shown (.dict [])) t) { s with heap := h', toks := k } := fun h' t k hk => ⟨.str _, H, I.kept hk, ⟨_, rfl⟩, q⟩
  have hh := I.hok a _ hd
  unfold L2.ObjOk at hh
  obtain ⟨_, h1, vs, kv, o, es, ep, g1, g2, g3, g4, g5, g6⟩ := hh
  obtain rfl : vs = [] := by cases kv; rfl
  have ees : es.toList = [] := by
    generalize es.toList = l at g5
    cases g5; rfl
  have rd : Reads s.heap (.ref a) (.dict []) ([a] ++ []) := Reads.dict (as := []) (bs := []) g1 g2.1 g3 (by rw [ees]; exact .nil) (by rw [ees]; exact .nil)
  refine repr_of_reads' rd (by decide +kernel) (fun _ m => ?_) hA ?_ (fun _ _ e => e) (fun h' u tk hk => fin h' u tk hk) (by rw [shown_dn, len_lit]; decide +kernel)
  · have : sysModules = a := by simpa using m
    rw [this] at h1
    simp at h1
  · have : (PyData.dict []).depth ≤ 5 := by decide +kernel
    omega
def rShow (K : Frag) : List V → Hp → VK → Prop := fun xs H Q => (∃ x d, xs = [x] ∧ Dp K H x d ∧ d.showable = true ∧ d.hasDict = false ∧ d.depth ≤ 60 ∧ d.shown.length ≤ sizeLine ∧ Q (.str d.shown) H) ∨ ∃ a, xs = [.ref a] ∧ H a = some (.dK []) ∧ Q (.str (PyData.shown (.dict []))) H
theorem call_reprR {X : Cx} (hA : X.A.guards = some []) (hu : X.A.units + 64 < cLine) : CallR X (.builtin "repr") (rShow X.K) := (call_reprD hA hu).or (call_reprE hA hu)
theorem cd_rep {K : Frag} : CallD K (rShow K) fRep := by
  intro Z vs ss Qd Q ok ra w k
  unfold fRep at w
  split at w
  · obtain ⟨v, rfl, r⟩ := rp1 ra
    split at w
    · rename_i d e
      rcases w.1.ok with ho | rfl
      · exact .inl ⟨v, d, rfl, r.dp ok e (okR_dict ho), okR_show ho, okR_dict ho, w.1.dp, w.1.len, k.now ok (.str _) w.2⟩
      · have i := r.data e fun ds h => by cases h
        generalize hd : PyData.dict [] = d at i
        cases i with
        | dct h1 h2 h3 =>
          rename_i a kvs ds
          have e0 : kvs = [] := by
            cases kvs with
            | nil => rfl
            | cons _ _ =>
              cases h3
              simp at hd
          subst e0
          exact .inr ⟨_, rfl, h1, k.now ok (.str _) w.2⟩
        | _ => cases hd
    · exact w.elim
  · exact w.elim
theorem small100 {i : Int} (h0 : -(2 ^ 64) ≤ i) (h1 : i ≤ 2 ^ 64) : i.natAbs < 10 ^ 100 := by
  have : i.natAbs < 10 ^ 20 := by omega
  exact Nat.lt_trans this (by decide +kernel)
theorem okR_ints : ∀ {ns : List Int}, (∀ n ∈ ns, n.natAbs < 10 ^ 100) → okRAll (ns.map .int) = true
  | [], _ => rfl
  | n :: ns, h => by
    rw [List.map_cons, okRAll, okR_ints fun n m => h n (List.mem_cons_of_mem _ m)]
    simpa [okR] using h n List.mem_cons_self
theorem wt_ints : ∀ {ns : List Int}, wtRAll (ns.map .int) = 103 * ns.length
  | [] => by simp [wtRAll]
  | n :: ns => by rw [List.map_cons, wtRAll, wt_ints, List.length_cons, wtR]; omega
structure RepP (w k : Nat) (d : PyData) : Prop where
  ok : okR d = true
  wt : wtR d ≤ w
  dp : d.depth ≤ k
structure RepL (w k : Nat) (ds : List PyData) : Prop where
  ok : okRAll ds = true
  wt : wtRAll ds ≤ w
  dp : PyData.depthAll ds ≤ k
theorem RepP.r {d : PyData} {w k : Nat} (h : RepP w k d) (hw : w ≤ 16000000) (hk : k ≤ 60) : RepOk d := ⟨.inl h.ok, Nat.le_trans h.wt hw, Nat.le_trans h.dp hk⟩
theorem RepP.mono {d : PyData} {w k w2 k2 : Nat} (h : RepP w k d) (hw : w ≤ w2) (hk : k ≤ k2) : RepP w2 k2 d := ⟨h.ok, Nat.le_trans h.wt hw, Nat.le_trans h.dp hk⟩
theorem RepL.nil : RepL 0 0 [] := ⟨rfl, Nat.le_refl _, by simp [PyData.depthAll]⟩
theorem RepL.cons {d : PyData} {ds : List PyData} {w k w2 k2 : Nat} (h : RepP w k d) (h2 : RepL w2 k2 ds) : RepL (w + 2 + w2) (max k k2) (d :: ds) :=
  ⟨by rw [okRAll, h.ok, h2.ok]; rfl, by have := h.wt; have := h2.wt; rw [wtRAll]; omega, by have := h.dp; have := h2.dp; rw [PyData.depthAll]; omega⟩
theorem RepL.lst {ds : List PyData} {w k : Nat} (h : RepL w k ds) : RepP (w + 3) (k + 1) (.list ds) := ⟨by rw [okR]; exact h.ok, by rw [wtR]; have := h.wt; omega, by rw [PyData.depth]; have := h.dp; omega⟩
theorem RepL.tup {ds : List PyData} {w k : Nat} (h : RepL w k ds) : RepP (w + 3) (k + 1) (.tuple ds) := ⟨by rw [okR]; exact h.ok, by rw [wtR]; have := h.wt; omega, by rw [PyData.depth]; have := h.dp; omega⟩
theorem RepL.mono {ds : List PyData} {w k w2 k2 : Nat} (h : RepL w k ds) (hw : w ≤ w2) (hk : k ≤ k2) : RepL w2 k2 ds := ⟨h.ok, Nat.le_trans h.wt hw, Nat.le_trans h.dp hk⟩
theorem RepL.all {w k : Nat} : ∀ {ds : List PyData}, (∀ d ∈ ds, RepP w k d) → RepL ((w + 2) * ds.length) k ds
  | [], _ => RepL.nil.mono (Nat.zero_le _) (Nat.zero_le _)
  | d :: ds, h => by
    have := RepL.cons (h d List.mem_cons_self) (RepL.all fun x m => h x (List.mem_cons_of_mem _ m))
    refine this.mono ?_ (by omega)
    rw [List.length_cons, Nat.mul_add]; omega
theorem rp_i {i : Int} (h : i.natAbs < 10 ^ 100) : RepP 101 0 (.int i) := ⟨by simpa [okR] using h, by simp [wtR], by simp [PyData.depth]⟩
theorem rp_n : RepP 4 0 .none := ⟨rfl, by simp [wtR], by simp [PyData.depth]⟩
theorem rp_s {z : Str} (h : PyData.strOk z = true) : RepP (10 * z.length + 2) 0 (.str z) := ⟨by simpa [okR] using h, by simp [wtR], by simp [PyData.depth]⟩
theorem rp_is {ns : List Int} (h : ∀ n ∈ ns, n.natAbs < 10 ^ 100) : RepL (103 * ns.length) 0 (ns.map .int) := ⟨okR_ints h, by rw [wt_ints]; omega, by rw [depth_ints]; omega⟩
end Pz
set_option maxRecDepth 100000
namespace Pz
open PySem PySem.Spec PyProof.Rows L2 TL
variable [PenC]
theorem szL : sizeLine = 16777216 := rfl
section
variable {g : DG} {tt : DT} {te : DE} {sl : Sls} {st : Sto} {Q : List PyData → Sto → Prop} {ds : List PyData}
theorem lcL_ind (Inv : List PyData → List PyData → Sto → Prop) (h0 : ∀ acc st, Inv [] acc st → Q acc st)
    (h1 : ∀ (R : List PyData → Sto → Prop) d ds acc st, (∀ acc st, Inv ds acc st → R acc st) → Inv (d :: ds) acc st → g (.d d) sl st fun sl2 st => tt (fun _ _ _ _ => False) sl2 st fun b st => if b = true then te (fun _ _ _ _ => False) sl2 st fun s st => match s with
      | .d y => acc.length < sizeLine ∧ R (acc ++ [y]) st
      | _ => False
    else R acc st) : ∀ ds acc st, Inv ds acc st → wLcL g tt te sl ds acc st Q
  | [], acc, st, h => h0 acc st h
  | d :: ds, acc, st, h => h1 (fun acc st => wLcL g tt te sl ds acc st Q) d ds acc st (fun acc st h => lcL_ind Inv h0 h1 ds acc st h) h
theorem lc_map (f : PyData → PyData) (hl : ds.length ≤ 16777216) (h : ∀ d ∈ ds, ∀ R : DK, R (.d (f d)) st → g (.d d) sl st fun sl2 st => te (fun _ _ _ _ => False) sl2 st R) (q : Q (ds.map f) st) : wLcL g wYes te sl ds [] st Q := by
  have main : ∀ (es acc : List PyData), acc.length + es.length ≤ 16777216 → (∀ d ∈ es, d ∈ ds) → Q (acc ++ es.map f) st → wLcL g wYes te sl es acc st Q := by
    intro es
    induction es with
    | nil => intro acc _ _ q; simpa [wLcL] using q
    | cons d es ih =>
      intro acc hl hm q
      have hl' : acc.length < sizeLine := by rw [List.length_cons] at hl; rw [szL]; omega
      exact h d (hm d List.mem_cons_self) (fun s st => match s with
        | .d y => acc.length < sizeLine ∧ wLcL g wYes te sl es (acc ++ [y]) st Q
        | _ => False) ⟨hl', ih _ (by rw [List.length_append, List.length_cons, List.length_nil]; rw [List.length_cons] at hl; omega) (fun x m => hm x (List.mem_cons_of_mem _ m)) (by simpa using q)⟩
  exact main ds [] (by simpa using hl) (fun _ m => m) (by simpa using q)
theorem lc_fil (f : PyData → Option PyData) (hl : ds.length ≤ 16777216) (h : ∀ d ∈ ds, ∀ (R : DK) (S : Sto → Prop), (∀ y, f d = some y → R (.d y) st) → (f d = none → S st) → g (.d d) sl st fun sl2 st => tt (fun _ _ _ _ => False) sl2 st fun b st => if b = true then te (fun _ _ _ _ => False) sl2 st R else S st) (q : Q (ds.filterMap f) st) : wLcL g tt te sl ds [] st Q := by
  have main : ∀ (es acc : List PyData), acc.length + es.length ≤ 16777216 → (∀ d ∈ es, d ∈ ds) → Q (acc ++ es.filterMap f) st → wLcL g tt te sl es acc st Q := by
    intro es
    induction es with
    | nil => intro acc _ _ q; simpa [wLcL] using q
    | cons d es ih =>
      intro acc hl hm q
      have hl' : acc.length < sizeLine := by rw [List.length_cons] at hl; rw [szL]; omega
      refine h d (hm d List.mem_cons_self) (fun s st => match s with
        | .d y => acc.length < sizeLine ∧ wLcL g tt te sl es (acc ++ [y]) st Q
        | _ => False) (fun st => wLcL g tt te sl es acc st Q) (fun y e => ⟨hl', ih _ (by rw [List.length_append, List.length_cons, List.length_nil]; rw [List.length_cons] at hl; omega) (fun x m => hm x (List.mem_cons_of_mem _ m)) (by simpa [List.filterMap_cons, e] using q)⟩) fun e => ih _ (by rw [List.length_cons] at hl; omega) (fun x m => hm x (List.mem_cons_of_mem _ m)) (by simpa [List.filterMap_cons, e] using q)
  exact main ds [] (by simpa using hl) (fun _ m => m) (by simpa using q)
end
theorem tl_sp1 : tl (Str.ofString " ") = [32] := by rw [tl_lit]; decide +kernel
theorem tl_tab1 : tl (Str.ofString "\t") = [9] := by rw [tl_lit]; decide +kernel
theorem tl_empty : tl (Str.ofString "") = [] := by rw [tl_lit]; rfl
theorem tl_add (x y : Str) : tl (x ++ y) = tl x ++ tl y := tl_append x y
theorem tl_S (l : List Nat) : tl (SX.S l) = l := rfl
theorem tl_mul1 {x : Str} {c : Nat} (h : tl x = [c]) (n : Int) : tl (Txt.mul x n) = List.replicate n.toNat c := by
  rw [tl_mul, h, List.flatten_replicate_singleton]
theorem len_sp {n : Int} : (Txt.mul (Str.ofString " ") n).length = n.toNat := by rw [len_tl, tl_mul1 tl_sp1, List.length_replicate]
theorem len_sp1 : (Str.ofString " ").length = 1 := by rw [len_tl, tl_sp1]; rfl
theorem len_tab1 : (Str.ofString "\t").length = 1 := by rw [len_tl, tl_tab1]; rfl
theorem len_em : (Str.ofString "").length = 0 := by rw [len_tl, tl_empty]; rfl
theorem S_of_tl {z : Str} {l : List Nat} (h : tl z = l) : z = SX.S l := h ▸ (SX.S_tl z).symm
theorem sh_sign {c : Nat} (h : c < 0x110000) : SeqAt.shaped (.str ⟨#[c]⟩) = true := by
  simp [SeqAt.shaped, PyData.canLay0, PyData.strOk, h, PyData.depth]
def toN : PyData → Nat
  | .int i => i.toNat
  | _ => 0
def toI : PyData → Int
  | .int i => i
  | _ => 0
theorem cut_last {α : Type} {xs : List α} {y : α} : Pz.cutD (xs ++ [y]) none (some (-1)) = xs := by
  rw [show Pz.cutD (xs ++ [y]) none (some (-1)) = ((xs ++ [y]).drop 0).take (HT.sIx (xs ++ [y]).length (xs ++ [y]).length (some (-1)) - 0) from rfl]
  have : HT.sIx (xs ++ [y]).length (xs ++ [y]).length (some (-1)) = xs.length := by
    simp [HT.sIx]
    try omega
  rw [this]
  simp
theorem at_last {α : Type} {xs : List α} {y : α} : atI (xs ++ [y]) (-1) = some y := by
  unfold atI
  rw [ixN_m1 (by simp)]
  simp
end Pz
set_option maxRecDepth 100000
namespace Pz
open PySem PySem.Spec PyProof.Rows L2 TL
variable [PenC]
section
variable {X : Cx} {E : WXs} {Z0 : Zs} {a b c e : Expr} {es : List Expr} {ta tb tc te : DE} {t : DA} {pos p : Pos} {x : Str} {K : Frag}
def oIxE (s t : Sl) (st : Sto) (Q : DK) : Prop := match vw st s, vw st t with
  | some (.list ds), some (.int i) => ∃ d, atI ds i = some d ∧ Q (.d d) st
  | some (.tuple ds), some (.int i) => ∃ d, atI ds i = some d ∧ Q (.d d) st
  | some (.str z), some (.int i) => z.length ≤ sizeLine ∧ ∃ c, atI (tl z) i = some c ∧ Q (.d (.str ⟨#[c]⟩)) st
  | _, _ => False
theorem oIxE_ok {s t : Sl} {st : Sto} {Q : DK} (h : oIxE s t st Q) : oIx s t st Q := by
  unfold oIxE at h
  unfold oIx
  split at h
  · obtain ⟨d, e, q⟩ := h
    rename_i e1 e2
    first | (rw [e1, e2]; dsimp only; rw [e]; exact q) | (rw [e]; exact q)
  · obtain ⟨d, e, q⟩ := h
    rename_i e1 e2
    first | (rw [e1, e2]; dsimp only; rw [e]; exact q) | (rw [e]; exact q)
  · obtain ⟨hz, d, e, q⟩ := h
    rename_i e1 e2
    first | (rw [e1, e2]; dsimp only; rw [e]; exact ⟨hz, q⟩) | (rw [e]; exact ⟨hz, q⟩)
  · exact h.elim
theorem d2_ixE : D2 K (rIx K) oIxE := fun Z v u s t Qd Q ok r1 r2 w k => d2_ix Z v u s t Qd Q ok r1 r2 (oIxE_ok w) k
theorem de_ixE (ha : DEx X E a ta) (hb : DEx X E b tb) (hs : PlainIx b := by intro _ _; rfl) : DEx X E (.Subscript a b pos) (wOp oIxE ta tb) := ⟨peI (pe_ix ix_seq ha.run hb.run hs) (wOp_ok d2_ixE)⟩
end
theorem pickI {P : Int → Prop} {ds : List PyData} {i : Int} {R : PyData → Prop} (h : Ints P ds) (h0 : 0 ≤ i) (h1 : i < ds.length) (k : ∀ x, P x → R (.int x)) : ∃ y, atI ds i = some y ∧ R y := by
  obtain ⟨y, e, m⟩ := atI_lt h0 h1
  obtain ⟨x, rfl, hx⟩ := h y m
  exact ⟨_, e, k x hx⟩
theorem pickM {P : PyData → Prop} {ds : List PyData} {i : Int} {R : PyData → Prop} (h : ∀ d ∈ ds, P d) (h0 : 0 ≤ i) (h1 : i < ds.length) (k : ∀ d, P d → R d) : ∃ y, atI ds i = some y ∧ R y := by
  obtain ⟨y, e, m⟩ := atI_lt h0 h1
  exact ⟨_, e, k y (h y m)⟩
theorem Ints.cons {P : Int → Prop} {x : Int} {ds : List PyData} (h : P x) (h2 : Ints P ds) : Ints P (.int x :: ds) := fun d m => by
  rcases List.mem_cons.mp m with rfl | m
  · exact ⟨x, rfl, h⟩
  · exact h2 d m
theorem Ints.imp {P R : Int → Prop} {ds : List PyData} (h : Ints P ds) (k : ∀ x, P x → R x) : Ints R ds := fun d m => by
  obtain ⟨x, rfl, hx⟩ := h d m
  exact ⟨x, rfl, k x hx⟩
theorem Ints.tail {P : Int → Prop} {d : PyData} {ds : List PyData} (h : Ints P (d :: ds)) : Ints P ds := fun z m => h z (List.mem_cons_of_mem _ m)
theorem Ints.head {P : Int → Prop} {d : PyData} {ds : List PyData} (h : Ints P (d :: ds)) : ∃ x, d = .int x ∧ P x := h d List.mem_cons_self
theorem Ints.asInts {P : Int → Prop} : ∀ {ds : List PyData}, Ints P ds → Pz.asInts ds = some (ds.map toI)
  | [], _ => rfl
  | d :: ds, h => by
    obtain ⟨x, rfl, hx⟩ := h.head
    simp [Pz.asInts, Ints.asInts h.tail, toI]
theorem Ints.eq {P : Int → Prop} {ds : List PyData} (h : Ints P ds) : ds = (ds.map toI).map .int := asInts_eq h.asInts
theorem Ints.toI {P : Int → Prop} {ds : List PyData} (h : Ints P ds) : ∀ x ∈ ds.map Pz.toI, P x := fun x m => by
  obtain ⟨d, md, rfl⟩ := List.mem_map.mp m
  obtain ⟨y, rfl, hy⟩ := h d md
  exact hy
theorem Ints.of {P : Int → Prop} {ns : List Int} (h : ∀ x ∈ ns, P x) : Ints P (ns.map .int) := fun d m => by
  obtain ⟨x, mx, rfl⟩ := List.mem_map.mp m
  exact ⟨x, rfl, h x mx⟩
theorem Ints.rng {lo : Int} {n : Nat} : Ints (fun x => lo ≤ x ∧ x < lo + n) (rng lo n) := fun d m => by
  unfold Pz.rng at m
  obtain ⟨i, mi, rfl⟩ := List.mem_map.mp m
  exact ⟨_, rfl, by omega, by have := List.mem_range.mp mi; omega⟩
section
variable {K : Frag}
def mPopAt : FM := fun s ss st Q => match s, ss with
  | .o h, [t] => match st[h]?, vw st t with
    | some (.lst ds), some (.int i) => -(2 ^ 63) ≤ i ∧ i < 2 ^ 63 ∧ ∃ d, atI ds i = some d ∧ ∃ k, ixN ds.length i = some k ∧ Q (.d d) (st.set h (.lst (ds.eraseIdx k)))
    | _, _ => False
  | _, _ => False
end
section
variable {X : Cx} {E : WXs} {Z0 : Zs} {a b : Expr} {ta tb : DE} {pos p p2 pos2 : Pos}
structure DRg (X : Cx) (E : WXs) (e : Expr) (τ : DX → Sls → Sto → (Int → Int → Sto → Prop) → Prop) : Prop where
  run : PRg X e fun σ H Q => ∃ (Z : Zs) (sl : Sls) (Qd : Int → Int → Sto → Prop) (Ed : DX), Z.H = H ∧ Ok X.K Z ∧ SlOk X.K Z σ sl ∧ τ Ed sl Z.st Qd ∧ (∀ (Z' : Zs) (i j : Int), Le Z Z' → Ok X.K Z' → Qd i j Z'.st → Q i j Z'.H) ∧ KXOk X.K Z Ed E
def wRg1 (ta : DE) : DX → Sls → Sto → (Int → Int → Sto → Prop) → Prop := fun Ed sl st Q => ta Ed sl st fun s st => match vw st s with
  | some (.int j) => Q 0 j st
  | _ => False
def wRg2 (ta tb : DE) : DX → Sls → Sto → (Int → Int → Sto → Prop) → Prop := fun Ed sl st Q => ta Ed sl st fun s st => tb Ed sl st fun t st => match vw st s, vw st t with
  | some (.int i), some (.int j) => Q i j st
  | _, _ => False
def wListRg (tr : DX → Sls → Sto → (Int → Int → Sto → Prop) → Prop) : DE := fun Ed sl st Q => tr Ed sl st fun i j st => RgOk i j ∧ Q (.d (.list (rng i (j - i).toNat))) st
end
theorem wRg1_ap {ta : DE} {Ed : DX} {sl : Sls} {st : Sto} {Q : Int → Int → Sto → Prop} : wRg1 ta Ed sl st Q = (ta Ed sl st fun s st => match vw st s with
  | some (.int j) => Q 0 j st
  | _ => False) := rfl
theorem wRg2_ap {ta tb : DE} {Ed : DX} {sl : Sls} {st : Sto} {Q : Int → Int → Sto → Prop} : wRg2 ta tb Ed sl st Q = (ta Ed sl st fun s st => tb Ed sl st fun t st => match vw st s, vw st t with
  | some (.int i), some (.int j) => Q i j st
  | _, _ => False) := rfl
theorem wListRg_ap {tr : DX → Sls → Sto → (Int → Int → Sto → Prop) → Prop} {Ed : DX} {sl : Sls} {st : Sto} {Q : DK} : wListRg tr Ed sl st Q = (tr Ed sl st fun i j st => RgOk i j ∧ Q (.d (.list (rng i (j - i).toNat))) st) := rfl
theorem glI {mg : Str → Option Value} {x : Str} {i : Int} (h : ∃ t, mg x = some (.int i t)) : ∃ u, mg x = some u ∧ RelV (.int i) u := by
  obtain ⟨t, e⟩ := h; exact ⟨_, e, t, rfl⟩
theorem glS {mg : Str → Option Value} {x i : Str} (h : ∃ t, mg x = some (.str i t)) : ∃ u, mg x = some u ∧ RelV (.str i) u := by
  obtain ⟨t, e⟩ := h; exact ⟨_, e, t, rfl⟩
end Pz
set_option maxRecDepth 100000
namespace Pz
open PySem PySem.Spec PyProof.Rows L2 TL SrtO
variable [PenC]
section
variable {prog : Program} {w : World} {A : Around} {E : Value → Shared → Prop} {s : Shared} {l : Addr} {its : List Value} {ns : List Int} {Q : Value → Shared → Prop}
theorem iterT {items : Array Value} (hl : s.heap.IsTuple l items)
    (h : ∀ s₂ : Shared, s₂ = { s with heap := s.heap.push { cls := .type "tuple_iterator", data := .fields #[.ref l, .int 0 0] } } →
      (s₂.heap.IsTupleIter s.heap.objs.size l 0 ∧ s₂.heap.IsTuple l items) → (∀ b ∈ [s.heap.objs.size, l], b < s₂.heap.objs.size) → l ≠ s.heap.objs.size → Q (.ref s.heap.objs.size) s₂) :
    wpAny (model prog w) A (pyIter (.ref l)) Q E s := by
  have hlt : l < s.heap.objs.size := by obtain ⟨_, e, _⟩ := hl; exact Heap.lt_size e
  have hp : ∀ o, (s.heap.push o).IsTuple l items := fun o => by
    obtain ⟨o', e, c, n, d⟩ := hl
    exact ⟨o', Heap.get?_push_of_some _ e, c, n, d⟩
  refine wpAny_pyIter_tuple hl (h _ rfl ⟨⟨_, Heap.get?_push_size _ rfl, rfl, rfl⟩, hp _⟩ (fun b hb => ?_) (Nat.ne_of_lt hlt))
  show b < (s.heap.push _).objs.size
  rw [Heap.size_push]
  rcases List.mem_cons.mp hb with rfl | hb
  · exact Nat.lt_succ_self _
  · rw [List.mem_singleton.mp hb]; exact Nat.lt_succ_of_lt hlt
theorem keptT {h' : Heap} {o : Obj} (hk : ∀ b o', b ∉ [s.heap.objs.size] → (s.heap.push o).get? b = some o' → h'.get? b = some o') : ∀ b o, s.heap.get? b = some o → h'.get? b = some o := fun b o e => by
  refine hk b o (fun hm => ?_) (Heap.get?_push_of_some _ e)
  rw [List.mem_singleton.mp hm] at e
  exact absurd (Heap.lt_size e) (Nat.lt_irrefl _)
theorem sum_rawT (hh : A.handled = none) (hl : s.heap.IsTuple l its.toArray) (hi : IntsAre its ns)
    (h : ∀ h' tk t', (∀ b o, s.heap.get? b = some o → h'.get? b = some o) → Q (.int ns.sum t') { s with heap := h', toks := tk }) : wpAny (model prog w) A (call (.builtin "sum") [.ref l]) Q E s := by
  obtain ⟨xs, e⟩ := hi.allInts.items
  have hn : numsOf (intItems xs).toList = ns := by rw [← e]; exact hi.numsOf
  rw [nums_intItems] at hn
  rw [e] at hl
  refine call_sum_walkG (iterT hl fun s₂ e st hfp hlI => ?_)
  subst e
  refine ⟨_, _, _, _, _, _, numAt xs, rfl, Walks.tuple (A := A.in1) hh _ l hlI (intItems xs), st, hfp, (fun _ _ => intItems_at), fun h' tk t' hk => ?_⟩
  have := h h' tk t' (keptT hk)
  rw [← hn] at this
  rw [show (intItems xs).size = xs.size by simp [intItems], preSum_eq, List.take_of_length_le (by simp)]
  exact this
end
section
variable {X : Cx} {K : Frag}
def rSumT (K : Frag) : List V → Hp → VK → Prop := fun vs H Q => ∃ (a : Addr) (ns : List Int), vs = [V.ref a] ∧ SqT K H a (ns.map V.int) ∧ Q (.int ns.sum) H
def rMaxT (K : Frag) : List V → Hp → VK → Prop := fun vs H Q => ∃ (a : Addr) (ns : List Int), vs = [V.ref a] ∧ SqT K H a (ns.map V.int) ∧ 0 < ns.length ∧ ∀ m, m ∈ ns → (∀ y, y ∈ ns → y ≤ m) → Q (.int m) H
def rMinT (K : Frag) : List V → Hp → VK → Prop := fun vs H Q => ∃ (a : Addr) (ns : List Int), vs = [V.ref a] ∧ SqT K H a (ns.map V.int) ∧ 0 < ns.length ∧ ∀ m, m ∈ ns → (∀ y, y ∈ ns → m ≤ y) → Q (.int m) H
def rSortedIT (K : Frag) : List V → Hp → VK → Prop := fun vs H Q => ∃ (a : Addr) (ns : List Int), vs = [V.ref a] ∧ SqT K H a (ns.map V.int) ∧ ∀ (ns' : List Int) (p : Addr), ns'.Perm ns → ns'.Pairwise (· ≤ ·) → H p = none → Q (.ref p) (upd H p (.lst (ns'.map V.int)))
theorem cr_sumT (hc : X.calm = true) : CallR X (.builtin "sum") (rSumT X.K) := by
  intro pins s σ H vs us Q I r h
  obtain ⟨a, ns, rfl, hs, q⟩ := h
  obtain ⟨its, rv, hl, _⟩ := I.tuple hs
  rw [Vals.ref1 r]
  exact sum_rawT (I.ok.hd hc) hl rv.ints fun h' tk t' hk => ⟨.int _, H, I.kept hk, ⟨_, rfl⟩, q⟩
def vwJ (st : Sto) (s : Sl) : Option (List Int) := match vw st s with
  | some (.list ds) => asInts ds
  | some (.tuple ds) => asInts ds
  | _ => none
theorem vwJ_ok {Z : Zs} (ok : Ok K Z) {v : V} {s : Sl} {ns : List Int} (r : Rp K Z v s) (e : vwJ Z.st s = some ns) : ∃ a, v = .ref a ∧ (SqL K Z.H a (ns.map V.int) ∨ SqT K Z.H a (ns.map V.int)) := by
  unfold vwJ at e
  split at e
  · rename_i ds e1
    obtain ⟨a, xs, rfl, h, q⟩ := r.list ok e1
    rw [asInts_eq e] at q
    rw [im_ints q] at h
    exact ⟨a, rfl, .inl (.of h)⟩
  · rename_i ds e1
    obtain ⟨a, xs, rfl, h, q⟩ := r.tuple e1
    rw [asInts_eq e] at q
    rw [im_ints q] at h
    exact ⟨a, rfl, .inr h.sq⟩
  · cases e
def fSumE : FA := fun ss st Q => match ss with
  | [s] => ∃ ns, vwJ st s = some ns ∧ Q (.d (.int ns.sum)) st
  | _ => False
theorem cd_sumE : CallD K (fun xs H Q => rSum K xs H Q ∨ rSumT K xs H Q) fSumE := by
  intro Z vs ss Qd Q ok ra w k
  unfold fSumE at w
  split at w
  · obtain ⟨v, rfl, r⟩ := rp1 ra
    obtain ⟨ns, e, w⟩ := w
    obtain ⟨a, rfl, h⟩ := vwJ_ok ok r e
    rcases h with h | h
    · exact .inl ⟨a, ns, rfl, h, k.now ok (.int _) w⟩
    · exact .inr ⟨a, ns, rfl, h, k.now ok (.int _) w⟩
  · exact w.elim
def fSortedE : FA := fun ss st Q => match ss with
  | [s] => ∃ ns, vwJ st s = some ns ∧ Q (.d (.list ((isort ns).map .int))) st
  | _ => False
def fMaxE : FA := fun ss st Q => match ss with
  | [s] => ∃ ns, vwJ st s = some ns ∧ 0 < ns.length ∧ Q (.d (.int (lmax ns))) st
  | [s, t] => match vw st s, vw st t with
    | some (.int i), some (.int j) => Q (.d (.int (max i j))) st
    | _, _ => False
  | _ => False
def fMinE : FA := fun ss st Q => match ss with
  | [s] => ∃ ns, vwJ st s = some ns ∧ 0 < ns.length ∧ Q (.d (.int (lmin ns))) st
  | [s, t] => match vw st s, vw st t with
    | some (.int i), some (.int j) => Q (.d (.int (min i j))) st
    | _, _ => False
  | _ => False
theorem cr_sumE (hc : X.calm = true) : CallR X (.builtin "sum") (fun xs H Q => rSum X.K xs H Q ∨ rSumT X.K xs H Q) := (cr_sum hc).or (cr_sumT hc)
theorem vwJ_l {st : Sto} {ds : List PyData} : vwJ st (.d (.list ds)) = asInts ds := rfl
theorem vwJ_t {st : Sto} {ds : List PyData} : vwJ st (.d (.tuple ds)) = asInts ds := rfl
def mJoinE : FM := fun s ss st Q => match ss with
  | [t] => match vw st s with
    | some (.str a) => ∃ ys, vwS st t = some ys ∧ (ys.map (·.length)).sum + ys.length * a.length ≤ 16777216 ∧ Q (.d (.str (Txt.join a ys))) st
    | _ => False
  | _ => False
theorem md_joinE : MetD K (fun x xs H Q => ∃ a p, ∃ ys : List Str, x = .str a ∧ xs = [.ref p] ∧ (SqL K H p (ys.map V.str) ∨ SqT K H p (ys.map V.str)) ∧
    (ys.map (·.length)).sum + ys.length * a.length ≤ 16777216 ∧ Q (.str (Txt.join a ys)) H) mJoinE := fun Z v s vs ss Qd Q ok rs ra w k => by
  refine md_join Z v s vs ss Qd Q ok rs ra ?_ k
  unfold mJoinE at w
  unfold mJoin
  split at w
  · split at w
    · obtain ⟨ys, e, w⟩ := w
      rename_i e1
      first | (dsimp only; rw [e1, e]; exact w) | (dsimp only; rw [e]; exact w) | (rw [e]; exact w) | (rw [e1, e]; exact w) | (simp only [e1, e]; exact w)
    · exact w.elim
  · exact w.elim
theorem vwS_l {st : Sto} {ds : List PyData} : vwS st (.d (.list ds)) = asStrs ds := rfl
theorem vwS_t {st : Sto} {ds : List PyData} : vwS st (.d (.tuple ds)) = asStrs ds := rfl
theorem asStrs_S {xs : List (List Nat)} : asStrs (xs.map fun x => PyData.str (SX.S x)) = some (xs.map SX.S) := by
  have := asStrs_map (xs.map SX.S)
  rw [List.map_map] at this
  exact this
end
theorem eqv_nn : PyData.eqv (.list []) (.list []) = true := rfl
def intsB (ds : List PyData) : Bool := ds.all fun d => match d with
  | .int x => decide (0 ≤ x)
  | _ => false
end Pz
set_option maxRecDepth 100000
namespace Pz
open PySem PySem.Spec PyProof.Rows L2 TL RZ
variable [PenC]
section
variable {X : Cx} {E : WXs} {Z0 : Zs} {a b c e : Expr} {es : List Expr} {ta tb tc te : DE} {t : DA} {pos p tpos : Pos} {x : Str} {K : Frag} {elts : List Expr} {kk : Nat}
def oAddO (x y : Sl) (st : Sto) (Q : DK) : Prop := match vw st x, vw st y with
  | some (.list ds), some (.list es) => ds.length + es.length ≤ sizeLine ∧ Q (.o st.length) (st ++ [.lst (ds ++ es)])
  | _, _ => False
def oMulO (x y : Sl) (st : Sto) (Q : DK) : Prop := match vw st x, vw st y with
  | some (.list ds), some (.int n) => -(2 ^ 63) ≤ n ∧ n < 2 ^ 63 ∧ ds.length * n.toNat ≤ sizeLine ∧ Q (.o st.length) (st ++ [.lst (List.replicate n.toNat ds).flatten])
  | _, _ => False
def rngc (lo c : Int) (n : Nat) : List PyData := (List.range n).map fun i => .int (lo + (i : Nat) * c)
def wRng3 (t : DA) : DI := fun Ed sl st Q => t Ed sl st fun ss st => match ss with
  | [s, s', s''] => match vw st s, vw st s', vw st s'' with
    | some (.int i), some (.int j), some (.int c) => ∃ n, RgC i j c n ∧ Q (rngc i c n) st
    | _, _, _ => False
  | _ => False
def enumD : Nat → List PyData → List PyData
  | _, [] => []
  | k, d :: ds => .tuple [.int (k : Nat), d] :: enumD (k + 1) ds
theorem enum_get : ∀ {ds : List PyData} {k i : Nat} {d : PyData}, (enumD k ds)[i]? = some d → ∃ y, ds[i]? = some y ∧ d = .tuple [.int ((k + i : Nat) : Int), y]
  | [], k, i, d, h => by simp [enumD] at h
  | y :: ds, k, 0, d, h => by simp [enumD] at h; exact ⟨y, rfl, by rw [← h]; simp⟩
  | y :: ds, k, i + 1, d, h => by
    rw [enumD, List.getElem?_cons_succ] at h
    obtain ⟨z, e, rfl⟩ := enum_get h
    exact ⟨z, by simpa using e, by rw [show k + 1 + i = k + (i + 1) by omega]⟩
theorem enum_len : ∀ {ds : List PyData} {k : Nat}, (enumD k ds).length = ds.length
  | [], _ => rfl
  | d :: ds, k => by rw [enumD, List.length_cons, enum_len, List.length_cons]
theorem itd_enum {Z1 : Zs} {a : Addr} {xs : List V} {ds : List PyData} (h : Z1.H a = some (.lst xs)) (n : ¬ Z1.W a) (r : Z1.ImAll K xs ds) : ItD K (Ite K a) Z1 (enumD 0 ds) where
  go := fun Z k ok i hi => by
    rw [enum_len] at hi
    exact ⟨xs, xs[i]'(by rw [r.length]; exact hi), .of (k.f _ _ h n), List.getElem?_eq_getElem _⟩
  stop := fun Z k ok => ⟨xs, .of (k.f _ _ h n), by rw [r.length, enum_len]; exact Nat.le_refl _⟩
  yld := fun Z k ok i v H' d e y => by
    obtain ⟨T, x, rfl, nT, rfl, y⟩ := y
    obtain ⟨z, e', rfl⟩ := enum_get e
    obtain ⟨v', e2, r'⟩ := r.get' e'
    obtain rfl : v' = x := by injection e2.symm.trans (y xs (.of (k.f _ _ h n)))
    have rr : Z.ImAll K [.int ((i : Nat) : Int), v'] [.int ((0 + i : Nat) : Int), z] := by
      rw [Nat.zero_add]
      exact .cons (.int _) (.cons (Im.tr k r') .nil)
    exact ⟨Z.new T (.tup [.int (i : Nat), v']), ok.leNew nT, ok.new nT, rfl, rfl, ok.rpT nT rr⟩
def wEnum (te : DA) : DI := fun Ed sl st Q => te Ed sl st fun ss st => match ss with
  | [.d (.list ds)] => Q (enumD 0 ds) st
  | _ => False
def zipD (ds es : List PyData) : List PyData := List.zipWith (fun a b => .tuple [a, b]) ds es
def wZip (te : DA) : DI := fun Ed sl st Q => te Ed sl st fun ss st => match ss with
  | [.d (.list ds), .d (.list es)] => Q (zipD ds es) st
  | [.d (.tuple ds), .d (.tuple es)] => Q (zipD ds es) st
  | _ => False
theorem wRng3_ap {t : DA} {Ed : DX} {sl : Sls} {st : Sto} {Q : List PyData → Sto → Prop} : wRng3 t Ed sl st Q = (t Ed sl st fun ss st => match ss with
  | [s, s', s''] => match vw st s, vw st s', vw st s'' with
    | some (.int i), some (.int j), some (.int c) => ∃ n, RgC i j c n ∧ Q (rngc i c n) st
    | _, _, _ => False
  | _ => False) := rfl
theorem wEnum_ap {te : DA} {Ed : DX} {sl : Sls} {st : Sto} {Q : List PyData → Sto → Prop} : wEnum te Ed sl st Q = (te Ed sl st fun ss st => match ss with
  | [.d (.list ds)] => Q (enumD 0 ds) st
  | _ => False) := rfl
theorem wZip_ap {te : DA} {Ed : DX} {sl : Sls} {st : Sto} {Q : List PyData → Sto → Prop} : wZip te Ed sl st Q = (te Ed sl st fun ss st => match ss with
  | [.d (.list ds), .d (.list es)] => Q (zipD ds es) st
  | [.d (.tuple ds), .d (.tuple es)] => Q (zipD ds es) st
  | _ => False) := rfl
def spQO (k : Nat) (f : FD) : DSp := fun ss cs Q Ed => match ss, cs with
  | .o 0 :: r, [c] => ∃ n, Pen n c ∧ n + k ≤ 1000000 ∧ f r fun d => match d with
    | .list ds => ∀ c', Pen (n + k) c' → Q (.o 1) [c', .lst ds]
    | _ => False
  | _, _ => False
variable {f : FD} {n k m : Nat} {N : List Str} {τ : DS}
def aQO (k : Nat) (f : FD) (ss : List Sl) (st : Sto) (Q : DK) : Prop := match ss with
  | .o h :: r => ∃ c, st[h]? = some c ∧ ∃ n, Pen n c ∧ n + k ≤ 1000000 ∧ f r fun d => match d with
    | .list ds => ∀ c', Pen (n + k) c' → Q (.o st.length) (st.set h c' ++ [.lst ds])
    | _ => False
  | _ => False
def wCallQO (k : Nat) (f : FD) (t : DA) : DE := fun Ed sl st Q => t Ed sl st fun ss st => aQO k f ss st Q
theorem wCallQO_ap {f : FD} {t : DA} {Ed : DX} {sl : Sls} {st : Sto} {Q : DK} : wCallQO k f t Ed sl st Q = (t Ed sl st fun ss st => aQO k f ss st Q) := rfl
variable {fa : Addr} {fd : FuncData} {ps : List Str}
end
theorem ret1_o2 {C D : Ct} {ds : List PyData} {st : Sto} {Q : DK} : Ret 1 (.o 2) (C :: D :: .lst ds :: st) Q = (Cl 1 C ∧ Q (.o 1) [C, .lst ds]) := by simp [Ret, Ct.live, Cl]
theorem seq_cut {t u : DS} {nx bk ct : Sls → Sto → Prop} {rt : DK} {ex : DX} {sl : Sls} {σ : Sto} (J : Sls → Sto → Prop) (h1 : ∀ R : Sls → Sto → Prop, (∀ sl st, J sl st → R sl st) → t ⟨R, rt, ex, bk, ct⟩ sl σ)
    (h2 : ∀ sl st, J sl st → u ⟨nx, rt, ex, bk, ct⟩ sl st) : wSeq t u ⟨nx, rt, ex, bk, ct⟩ sl σ := h1 _ h2
theorem Ints.get {P : Int → Prop} {ds : List PyData} {i : Int} (h : Ints P ds) (h0 : 0 ≤ i) (h1 : i < ds.length) : ∃ x, ds[i.toNat]? = some (.int x) ∧ atI ds i = some (.int x) ∧ ixN ds.length i = some i.toNat ∧ P x := by
  obtain ⟨y, e, m⟩ := atI_lt h0 h1
  obtain ⟨x, rfl, hx⟩ := h y m
  exact ⟨x, by rw [← atI_at h0 h1]; exact e, e, ixN_lt h0 h1, hx⟩
theorem eqv_nilL {ds : List PyData} : PyData.eqv (.list ds) (.list []) = ds.isEmpty := by cases ds <;> rfl
theorem rng_succ {lo : Int} {n : Nat} : rng lo (n + 1) = .int lo :: rng (lo + 1) n := by
  unfold rng
  rw [List.range_succ_eq_map, List.map_cons, List.map_map]
  simp only [Int.natCast_zero, Int.add_zero]
  congr 1
  refine List.map_congr_left fun i _ => ?_
  simp only [Function.comp]
  congr 1
  omega
end Pz
set_option maxRecDepth 100000
namespace Pz
open PySem PySem.Spec PyProof.Rows L2 TL RZ
variable [PenC]
section
variable {X : Cx} {K : Frag}
def idxD (ds : List PyData) (d : PyData) : Option Nat := ds.findIdx? fun z => PyData.eqv z d
def mIndex : FM := fun s ss st Q => match ss with
  | [t] => match vw st s, vw st t with
    | some (.list ds), some d => SeqAt.shaped (.list ds) = true ∧ SeqAt.shaped d = true ∧ ∃ j, idxD ds d = some j ∧ Q (.d (.int (j : Nat))) st
    | _, _ => False
  | _ => False
def trimS (n : Nat) : Option Sl → Option Sl
  | some (.o h) => if h < n then some (.o h) else none
  | s => s
def wTrim (n0 : Nat) (u : DS) : DS := fun D sl st => ∃ n, n0 ≤ n ∧ (∀ c ∈ st.take n, Cl n c) ∧ u D (sl.map (trimS n)) (st.take n)
theorem wTrim_mk {n0 : Nat} {u : DS} {nx bk ct : Sls → Sto → Prop} {rt : DK} {ex : DX} {sl : Sls} {st : Sto} : wTrim n0 u ⟨nx, rt, ex, bk, ct⟩ sl st = ∃ n, n0 ≤ n ∧ (∀ c ∈ st.take n, Cl n c) ∧ u ⟨nx, rt, ex, bk, ct⟩ (sl.map (trimS n)) (st.take n) := rfl
end
end Pz
set_option maxRecDepth 100000
namespace Pz
open PySem PySem.Spec PyProof.Rows L2 TL
variable [PenC]
def oIadd (x y : Sl) (st : Sto) (Q : DK) : Prop := match vw st x, vw st y with
  | some (.int i), some (.int j) => Q (.d (.int (i + j))) st
  | some (.str a), some (.str b) => a.length + b.length ≤ sizeLine ∧ Q (.d (.str (a ++ b))) st
  | _, _ => False
def rIadd : R2 := fun x y H Q => rI0 (fun i j => .int (i + j)) x y H Q ∨ (∃ i j, x = .str i ∧ y = .str j ∧ i.length + j.length ≤ sizeLine ∧ Q (.str (i ++ j)) H)
end Pz
set_option maxRecDepth 100000
namespace Pz
open PySem PySem.Spec PyProof.Rows L2 TL
variable [PenC]
section
variable {X : Cx} {E : WXs} {Z0 : Zs} {a b c e : Expr} {es : List Expr} {ta tb tc te ti to : DE} {t : DA} {pos p : Pos} {x : Str} {K : Frag}
theorem de_ty {T : String} (hg : Gl X x) (hm : X.mg x = none) (hv : bootBuiltins x = some (.type T)) (hn : x ≠ "__name__" := by decide) (hd : (x == "__debug__") = false := by decide) : DEx X E (.Name x pos) (wC (.r (.ty T))) :=
  ⟨peI (pe_bltn (v := .ty T) hg hm hv rfl hn hd) fun σ H Q ⟨Z, sl, Qd, Ed, e, ok, so, w, k, kx⟩ => by
    subst e
    exact k Z (.ty T) (.r (.ty T)) (.refl ok) ok rfl w⟩
def tyName : PyData → String
  | .none => "NoneType"
  | .bool _ => "bool"
  | .int _ => "int"
  | .str _ => "str"
  | .list _ => "list"
  | .tuple _ => "tuple"
  | .dict _ => "dict"
def isTyB (T n : String) : Bool := n == T || (T == "int" && n == "bool")
theorem kit_is {K : Frag} : ∀ T ∈ (["int", "bool", "str", "tuple", "list", "dict"] : List String), ∀ n ∈ (["NoneType", "bool", "int", "str", "list", "tuple", "dict"] : List String), PySem.W.kitOne K (.type n) (.type T) = some (isTyB T n) := by
  intro T hT n hn
  simp only [List.mem_cons, List.not_mem_nil, or_false] at hT hn
  rcases hT with rfl | rfl | rfl | rfl | rfl | rfl <;> rcases hn with rfl | rfl | rfl | rfl | rfl | rfl | rfl <;> with_unfolding_all rfl
inductive TyY (K : Frag) (H : Hp) : V → Value → Prop where
  | x {v : V} {t : Value} (h : TyX K H v t) : TyY K H v t
  | fExc {a C : Addr} {d : Option Addr} {W : Addr → Prop} {us : List (Str × V)} (e : H a = some (ExH (.ref C) d a)) (f : XcF K C) (x : XuOk W H us d) : TyY K H (.ref a) (.ref C)
  | fDN {a : Addr} {o : Obj} {kvs : List (Option Int × V)} (e : H a = some (.frz o (NdO kvs a))) : TyY K H (.ref a) (.type "dict")
  | fDT {a : Addr} {o : Obj} {kvs : List (List Key × V)} (e : H a = some (.frz o (.dT kvs))) : TyY K H (.ref a) (.type "dict")
def rIsi2 (K : Frag) : List V → Hp → VK → Prop := fun xs H Q => ∃ (x c : V) (t u : Value) (b : Bool), xs = [x, c] ∧ L2.ClsV c u ∧ TyY K H x t ∧ PySem.W.kitOne K t u = some b ∧ Q (.bl b) H
theorem call_isi2 {X : Cx} : CallR X (.builtin "isinstance") (rIsi2 X.K) := by
  intro pins s σ H xs us Q I r h
  obtain ⟨x, c, t, u, b, rfl, k, ty, e, q⟩ := h
  cases ty with
  | x ty => exact call_isi pins s σ H [x, c] us Q I r ⟨x, c, t, u, b, rfl, k, ty, e, q⟩
  | @fExc a C d W us ea f x =>
    obtain ⟨u1, u2, rfl, r1, r2⟩ := L2.vals2 r
    have e2 := k.eq r2
    subst e2
    cases (show u1 = Value.ref a from r1)
    obtain ⟨⟨oe, vs, he, hz, hd⟩, _⟩ := (show ObjOk X.prog X.w H s.heap a (ExH (.ref C) d a) from I.hok a _ ea)
    have hn : PySem.W.notCls oe = true := by unfold PySem.W.notCls; rw [hd] <;> rfl
    have hI : ∃ od, PySem.W.InstAt s.heap a oe C od := by
      cases d with
      | none => exact ⟨none, he, hz.1, hn, by rw [hz.2]; trivial⟩
      | some dx =>
        obtain ⟨ob, ho⟩ := objOk_get (I.hok dx _ x.2)
        exact ⟨some ob, he, hz.1, hn, by rw [hz.2]; exact ho⟩
    obtain ⟨od, hI⟩ := hI
    exact PySem.W.kia_one (PySem.W.kitx_exc (x := a) (ox := oe) (od := od) f.cl f.ga f.gg f.exC f.cc f.gt f.tk f.ob) I.kIn hI e (fun z => by cases z) fun tk => ⟨.bl b, H, I.tok tk, rfl, q⟩
  | @fDN a o kvs ea =>
    obtain ⟨u1, u2, rfl, r1, r2⟩ := L2.vals2 r
    have e2 := k.eq r2
    subst e2
    cases (show u1 = Value.ref a from r1)
    obtain ⟨⟨_, _, _, vs, _, dd⟩, _⟩ := (show ObjOk X.prog X.w H s.heap a (.frz o (NdO kvs a)) from I.hok a _ ea).2
    obtain ⟨o', es, ep, h1, h2, _⟩ := dd X.prog X.w
    exact PySem.W.kia_one PySem.W.kitx_dict I.kIn ⟨o', h1, h2.1⟩ e (fun z => nomatch z) fun tk => ⟨.bl b, H, I.tok tk, rfl, q⟩
  | @fDT a o kvs ea =>
    obtain ⟨u1, u2, rfl, r1, r2⟩ := L2.vals2 r
    have e2 := k.eq r2
    subst e2
    cases (show u1 = Value.ref a from r1)
    obtain ⟨_, _, _, xs, _, o', es, ep, h1, h2, _⟩ := (show ObjOk X.prog X.w H s.heap a (.frz o (.dT kvs)) from I.hok a _ ea)
    exact PySem.W.kia_one PySem.W.kitx_dict I.kIn ⟨o', h1, h2.1⟩ e (fun z => nomatch z) fun tk => ⟨.bl b, H, I.tok tk, rfl, q⟩
theorem ty_of {Z : Zs} (ok : Ok K Z) {v : V} {s : Sl} {d : PyData} (r : Rp K Z v s) (e : vw Z.st s = some d) : ∃ t, TyY K Z.H v t ∧ ∀ T ∈ (["int", "bool", "str", "tuple", "list"] : List String), PySem.W.kitOne K t (.type T) = some (isTyB T (tyName d)) := by
  have go : ∀ n ∈ (["NoneType", "bool", "int", "str", "list", "tuple", "dict"] : List String), TyY K Z.H v (.type n) → ∃ t, TyY K Z.H v t ∧ ∀ T ∈ (["int", "bool", "str", "tuple", "list"] : List String), PySem.W.kitOne K t (.type T) = some (isTyB T n) := fun n hn h => ⟨_, h, fun T hT => kit_is T (by simp only [List.mem_cons, List.not_mem_nil, or_false] at hT ⊢; rcases hT with h | h | h | h | h <;> simp [h]) n hn⟩
  by_cases hd : ∃ ds, d = .list ds
  · obtain ⟨ds, rfl⟩ := hd
    obtain ⟨a, xs, rfl, h1, _⟩ := r.list ok e
    exact go "list" (by simp) (.x (.base (.lst h1)))
  · have := r.data e fun ds h => hd ⟨ds, h⟩
    cases this with
    | non => exact go "NoneType" (by simp) (.x (.base .non))
    | bl b => exact go "bool" (by simp) (.x (.base (.bl b)))
    | int i => exact go "int" (by simp) (.x (.base (.int i)))
    | str x => exact go "str" (by simp) (.x (.base (.str x)))
    | lst h1 _ _ => exact go "list" (by simp) (.x (.base (.lst h1)))
    | tup h1 _ =>
      refine go "tuple" (by simp) ?_
      rcases h1 with ⟨h1, _⟩ | ⟨_, o, its, n, h1, h2, _⟩
      · exact .x (.base (.tup h1))
      · exact .x (.kTuple h1 h2)
    | dct h1 _ _ => exact go "dict" (by simp) (.x (.base (.dK h1)))
    | dcl h1 _ _ => exact go "dict" (by simp) (.x (.fDict h1))
    | dcT h1 _ _ => exact go "dict" (by simp) (.fDT h1)
    | dcN h1 _ _ => exact go "dict" (by simp) (.fDN h1)
    | exc _ k h1 _ h2 _ =>
      obtain ⟨C, rfl, f, g⟩ := k
      refine ⟨.ref C, .fExc h1 f h2, fun T hT => ?_⟩
      rw [g T hT]
      simp only [List.mem_cons, List.not_mem_nil, or_false] at hT
      rcases hT with rfl | rfl | rfl | rfl | rfl <;> with_unfolding_all rfl
def okTy (T : String) : Bool := (["int", "bool", "str", "tuple", "list"] : List String).contains T
def fIsi : FA := fun ss st Q => match ss with
  | [s, .r (.ty T)] => match vw st s with
    | some d => okTy T = true ∧ Q (.d (.bool (isTyB T (tyName d)))) st
    | none => False
  | _ => False
theorem cd_isi : CallD K (rIsi2 K) fIsi := by
  intro Z vs ss Qd Q ok ra w k
  unfold fIsi at w
  split at w
  · rename_i s T
    obtain ⟨v, u, rfl, r1, r2⟩ := rp2 ra
    have r2' : u = .ty T := r2
    subst r2'
    split at w
    · rename_i d e
      obtain ⟨t, h1, h2⟩ := ty_of ok r1 e
      exact ⟨v, .ty T, t, _, _, rfl, .ty T, h1, h2 T (by simpa [okTy] using w.1), k.now ok (.bl _) w.2⟩
    · exact w.elim
  · exact w.elim
abbrev KD := List (Key × PyData)
def valD (kvs : KD) (k : Key) : Option PyData := (kvs.find? fun kv => decide (kv.1 = k)).map (·.2)
def putD (kvs : KD) (k : Key) (d : PyData) : KD := if (kvs.any fun kv => decide (kv.1 = k)) = true then kvs.map fun kv => if kv.1 = k then (kv.1, d) else kv else kvs ++ [(k, d)]
def mergeD (kvs more : KD) : KD := more.foldl (fun acc kv => putD acc kv.1 kv.2) kvs
def keyOf : PyData → Option Key
  | .int i => some (.inl i)
  | .str z => some (.inr z)
  | _ => none
def ImKD (K : Frag) (W : Addr → Prop) (H : Hp) (us : List (Key × V)) (kvs : KD) : Prop := us.map (·.1) = kvs.map (·.1) ∧ ImAll K W H (us.map (·.2)) (kvs.map (·.2))
section
variable {W : Addr → Prop} {H : Hp}
theorem ImKD.nil : ImKD K W H [] [] := ⟨rfl, .nil⟩
theorem ImKD.inv {us : List (Key × V)} {kvs : KD} (h : ImKD K W H us kvs) : (us = [] ∧ kvs = []) ∨ ∃ k v d us' kvs', us = (k, v) :: us' ∧ kvs = (k, d) :: kvs' ∧ Im K W H v d ∧ ImKD K W H us' kvs' := by
  obtain ⟨h1, h2⟩ := h
  cases us with
  | nil => cases kvs with
    | nil => exact .inl ⟨rfl, rfl⟩
    | cons _ _ => cases h1
  | cons u us => cases kvs with
    | nil => cases h1
    | cons kv kvs =>
      obtain ⟨k, v⟩ := u
      obtain ⟨k', d⟩ := kv
      simp only [List.map_cons, List.cons.injEq] at h1
      obtain ⟨rfl, h1⟩ := h1
      cases h2 with
      | cons q r => exact .inr ⟨k, v, d, us, kvs, rfl, rfl, q, h1, r⟩
theorem ImKD.cons {k : Key} {v : V} {d : PyData} {us : List (Key × V)} {kvs : KD} (q : Im K W H v d) (h : ImKD K W H us kvs) : ImKD K W H ((k, v) :: us) ((k, d) :: kvs) := ⟨by rw [List.map_cons, List.map_cons, h.1], .cons q h.2⟩
theorem ImKD.app : ∀ {us us' : List (Key × V)} {kvs kvs' : KD}, ImKD K W H us kvs → ImKD K W H us' kvs' → ImKD K W H (us ++ us') (kvs ++ kvs') := fun h h' => ⟨by rw [List.map_append, List.map_append, h.1, h'.1], by rw [List.map_append, List.map_append]; exact h.2.append h'.2⟩
theorem ImKD.any {k : Key} : ∀ {us : List (Key × V)} {kvs : KD}, ImKD K W H us kvs → (us.any fun kv => decide (kv.1 = k)) = (kvs.any fun kv => decide (kv.1 = k))
  | [], _, h => by rcases h.inv with ⟨_, rfl⟩ | ⟨_, _, _, _, _, e, _⟩; rfl; cases e
  | u :: us, _, h => by
    rcases h.inv with ⟨e, _⟩ | ⟨k', v, d, us', kvs', e, rfl, q, h'⟩
    · cases e
    · cases e
      rw [List.any_cons, List.any_cons, ImKD.any h']
theorem ImKD.val {k : Key} {d : PyData} : ∀ {us : List (Key × V)} {kvs : KD}, ImKD K W H us kvs → valD kvs k = some d → ∃ v, valV us k = some v ∧ Im K W H v d
  | [], _, h, e => by rcases h.inv with ⟨_, rfl⟩ | ⟨_, _, _, _, _, e', _⟩; cases e; cases e'
  | u :: us, _, h, e => by
    rcases h.inv with ⟨e', _⟩ | ⟨k', v, d', us', kvs', e', rfl, q, h'⟩
    · cases e'
    · cases e'
      by_cases hk : k' = k
      · subst hk
        simp [valD] at e
        subst e
        exact ⟨v, by simp [valV], q⟩
      · have e2 : valD kvs' k = some d := by simpa [valD, hk] using e
        obtain ⟨v', h1, h2⟩ := ImKD.val h' e2
        exact ⟨v', by simpa [valV, hk] using h1, h2⟩
theorem ImKD.noval {k : Key} : ∀ {us : List (Key × V)} {kvs : KD}, ImKD K W H us kvs → valD kvs k = none → valV us k = none
  | [], _, h, e => rfl
  | u :: us, _, h, e => by
    rcases h.inv with ⟨e', _⟩ | ⟨k', v, d', us', kvs', e', rfl, q, h'⟩
    · cases e'
    · cases e'
      by_cases hk : k' = k
      · subst hk
        simp [valD] at e
      · have e2 : valD kvs' k = none := by simpa [valD, hk] using e
        simpa [valV, hk] using ImKD.noval h' e2
theorem ImKD.mapK {k : Key} {v : V} {d : PyData} (q : Im K W H v d) : ∀ {us : List (Key × V)} {kvs : KD}, ImKD K W H us kvs → ImKD K W H (us.map fun kv => if kv.1 = k then (kv.1, v) else kv) (kvs.map fun kv => if kv.1 = k then (kv.1, d) else kv)
  | [], _, h => by rcases h.inv with ⟨_, rfl⟩ | ⟨_, _, _, _, _, e', _⟩; exact .nil; cases e'
  | u :: us, _, h => by
    rcases h.inv with ⟨e', _⟩ | ⟨k', v', d', us', kvs', e', rfl, q', h'⟩
    · cases e'
    · cases e'
      have ih := ImKD.mapK (k := k) q h'
      rw [List.map_cons, List.map_cons]
      dsimp only
      split
      · exact .cons q ih
      · exact .cons q' ih
theorem ImKD.put {k : Key} {v : V} {d : PyData} (q : Im K W H v d) {us : List (Key × V)} {kvs : KD} (h : ImKD K W H us kvs) : ImKD K W H (putK us k v) (putD kvs k d) := by
  unfold putK putD
  rw [h.any]
  split
  · exact h.mapK q
  · exact h.app (.cons q .nil)
theorem ImKD.len {us : List (Key × V)} {kvs : KD} (h : ImKD K W H us kvs) : us.length = kvs.length := by
  have := congrArg List.length h.1
  simpa using this
theorem ImKD.tr {W' : Addr → Prop} {H' : Hp} (s : Stay W W' H H') {us : List (Key × V)} {kvs : KD} (h : ImKD K W H us kvs) : ImKD K W' H' us kvs := ⟨h.1, ImAll.tr s h.2⟩
end
theorem Rp.hd {Z : Zs} (ok : Ok K Z) {v : V} {h : Nat} {kvs : KD} (r : Rp K Z v (.o h)) (e : Z.st[h]? = some (.dK kvs)) : ∃ a us, v = .ref a ∧ Z.φ[h]? = some a ∧ Z.H a = some (.dK us) ∧ ImKD K Z.W Z.H us kvs := by
  obtain ⟨a, c, ev, e1, e2, e3⟩ := r
  rw [e] at e2
  cases e2
  obtain ⟨us, q, q1, q2⟩ := ok.ct h a _ e1 e
  exact ⟨a, us, ev, e1, q, q1, q2⟩
def dkAt (st : Sto) : Sl → Option KD
  | .o h => match st[h]? with
    | some (.dK kvs) => some kvs
    | _ => none
  | _ => none
def keyS (st : Sto) (s : Sl) : Option Key := (vw st s).bind keyOf
def oDGet (s t : Sl) (st : Sto) (Q : DK) : Prop := match dkAt st s, keyS st t with
  | some kvs, some k => ∃ d, valD kvs k = some d ∧ Q (.d d) st
  | _, _ => False
def wDPut (te to ti : DE) : DS := fun D sl st => te D.ex sl st fun v st => to D.ex sl st fun o st => ti D.ex sl st fun i st => match o, v, keyS st i with
  | .o h, .d y, some k => match st[h]? with
    | some (.dK kvs) => kvs.length < sizeLine ∧ D.nx sl (st.set h (.dK (putD kvs k y)))
    | _ => False
  | _, _, _ => False
abbrev DP := DX → Sls → Sto → (KD → Sto → Prop) → Prop
def wPNil : DP := fun _ _ st Q => Q [] st
def wPCons (tk tv : DE) (r : DP) : DP := fun Ed sl st Q => tk Ed sl st fun k st => tv Ed sl st fun v st => match k, v with
  | .d kd, .d d => match keyOf kd with
    | some key => r Ed sl st fun kvs st => Q ((key, d) :: kvs) st
    | none => False
  | _, _ => False
def upP (K : Frag) (E : WXs) (τ : DP) : L2.St → Hp → (List (V × V) → Hp → Prop) → Prop := fun σ H Q => ∃ (Z : Zs) (sl : Sls) (Qd : KD → Sto → Prop) (Ed : DX), Z.H = H ∧ Ok K Z ∧ SlOk K Z σ sl ∧ τ Ed sl Z.st Qd ∧ (∀ (Z' : Zs) (us : List (Key × V)) (kvs : KD), Le Z Z' → Ok K Z' → ImKD K Z'.W Z'.H us kvs → Qd kvs Z'.st → Q (us.map fun kv => (kV kv.1, kv.2)) Z'.H) ∧ KXOk K Z Ed E
structure DPs (X : Cx) (E : WXs) (pos : Pos) (keys : List (Option Expr)) (values : List Expr) (τ : DP) : Prop where
  run : ∃ trs, PPs X pos keys values trs ∧ ∀ σ H Q, upP X.K E τ σ H Q → tPairs trs σ H Q
def wDisp (r : DP) : DE := fun Ed sl st Q => r Ed sl (st ++ [.dK []]) fun kvs st2 => st2[st.length]? = some (.dK []) ∧ kvs.length ≤ 15 ∧ Q (.o st.length) (st2.set st.length (.dK (mergeD [] kvs)))
def wDNew : DE := fun Ed sl st Q => Q (.o st.length) (st ++ [.dK []])
def wDNil : DE := fun Ed sl st Q => Q (.d (.dict [])) st
theorem de_dnil : DEx X E (.Dict [] [] pos) wDNil := ⟨peI pe_dnewK fun σ H Q ⟨Z, sl, Qd, Ed, h, ok, so, w, k, kx⟩ p n => by
  subst h
  have nw := ok.nw n
  refine k (Z.new p (.dK [])) (.ref p) (.d (.dict [])) (ok.leNew n) (ok.new n) ?_ w
  exact Im.dct (kvs := []) (ds := []) upd_same (fun z => nw z) .nil⟩
end
end Pz
set_option maxRecDepth 100000
namespace Pz
open PySem PySem.Spec PyProof.Rows L2 TL
variable [PenC]
theorem wDPut_ap {te to ti : DE} {nx bk ct : Sls → Sto → Prop} {rt : DK} {ex : DX} {sl : Sls} {st : Sto} : wDPut te to ti ⟨nx, rt, ex, bk, ct⟩ sl st = (te ex sl st fun v st => to ex sl st fun o st => ti ex sl st fun i st => match o, v, keyS st i with
  | .o h, .d y, some k => match st[h]? with
    | some (.dK kvs) => kvs.length < sizeLine ∧ nx sl (st.set h (.dK (putD kvs k y)))
    | _ => False
  | _, _, _ => False) := rfl
theorem wPNil_ap {Ed : DX} {sl : Sls} {st : Sto} {Q : KD → Sto → Prop} : wPNil Ed sl st Q = Q [] st := rfl
theorem wPCons_ap {tk tv : DE} {r : DP} {Ed : DX} {sl : Sls} {st : Sto} {Q : KD → Sto → Prop} : wPCons tk tv r Ed sl st Q = (tk Ed sl st fun k st => tv Ed sl st fun v st => match k, v with
  | .d kd, .d d => match keyOf kd with
    | some key => r Ed sl st fun kvs st => Q ((key, d) :: kvs) st
    | none => False
  | _, _ => False) := rfl
theorem wDisp_ap {r : DP} {Ed : DX} {sl : Sls} {st : Sto} {Q : DK} : wDisp r Ed sl st Q = (r Ed sl (st ++ [.dK []]) fun kvs st2 => st2[st.length]? = some (.dK []) ∧ kvs.length ≤ 15 ∧ Q (.o st.length) (st2.set st.length (.dK (mergeD [] kvs)))) := rfl
theorem wDNew_ap {Ed : DX} {sl : Sls} {st : Sto} {Q : DK} : wDNew Ed sl st Q = Q (.o st.length) (st ++ [.dK []]) := rfl
theorem wDNil_ap {Ed : DX} {sl : Sls} {st : Sto} {Q : DK} : wDNil Ed sl st Q = Q (.d (.dict [])) st := rfl
theorem keyOf_str {z : Str} : keyOf (.str z) = some (.inr z) := rfl
theorem keyOf_int {i : Int} : keyOf (.int i) = some (.inl i) := rfl
theorem keyS_str {st : Sto} {z : Str} : keyS st (.d (.str z)) = some (.inr z) := rfl
theorem keyS_int {st : Sto} {i : Int} : keyS st (.d (.int i)) = some (.inl i) := rfl
theorem dkAt_o {st : Sto} {h : Nat} : dkAt st (.o h) = match st[h]? with
    | some (.dK kvs) => some kvs
    | _ => none := rfl
section
variable {a b c d : PyData}
theorem valE_cells : valD [(.inr "cells", a), (.inr "at", b), (.inr "left", c)] (.inr "cells") = some a := by with_unfolding_all rfl
theorem valE_at : valD [(.inr "cells", a), (.inr "at", b), (.inr "left", c)] (.inr "at") = some b := by with_unfolding_all rfl
theorem valE_left : valD [(.inr "cells", a), (.inr "at", b), (.inr "left", c)] (.inr "left") = some c := by with_unfolding_all rfl
theorem putE_at : putD [(.inr "cells", a), (.inr "at", b), (.inr "left", c)] (.inr "at") d = [(.inr "cells", a), (.inr "at", d), (.inr "left", c)] := by with_unfolding_all rfl
theorem putE_left : putD [(.inr "cells", a), (.inr "at", b), (.inr "left", c)] (.inr "left") d = [(.inr "cells", a), (.inr "at", b), (.inr "left", d)] := by with_unfolding_all rfl
theorem mergeE : mergeD [] [(.inr "cells", a), (.inr "at", b), (.inr "left", c)] = [(.inr "cells", a), (.inr "at", b), (.inr "left", c)] := by with_unfolding_all rfl
end
theorem ret1_dE {C : KD} {st : Sto} {Q : DK} : Ret 0 (.o 0) (.dK C :: st) Q = Q (.o 0) [.dK C] := by simp [Ret, Ct.live, Cl]
theorem cl_dk {n : Nat} {kvs : KD} : Cl n (.dK kvs) = True := rfl
theorem u1 {k : Nat} {A : Around} (hr : Room k A) : A.units + 1 < cLine := by have := hr.units; omega
theorem okT_int : okTy "int" = true := by decide +kernel
theorem is_int_none : isTyB "int" (tyName (.none)) = false := by with_unfolding_all rfl
theorem is_int_bool {b : Bool} : isTyB "int" (tyName (.bool b)) = true := by with_unfolding_all rfl
theorem is_int_int {i : Int} : isTyB "int" (tyName (.int i)) = true := by with_unfolding_all rfl
theorem is_int_str {z : Str} : isTyB "int" (tyName (.str z)) = false := by with_unfolding_all rfl
theorem is_int_list {ds : List PyData} : isTyB "int" (tyName (.list ds)) = false := by with_unfolding_all rfl
theorem is_int_tuple {ds : List PyData} : isTyB "int" (tyName (.tuple ds)) = false := by with_unfolding_all rfl
theorem is_int_dict {kvs : List (PyData × PyData)} : isTyB "int" (tyName (.dict kvs)) = false := by with_unfolding_all rfl
theorem okT_bool : okTy "bool" = true := by decide +kernel
theorem is_bool_none : isTyB "bool" (tyName (.none)) = false := by with_unfolding_all rfl
theorem is_bool_bool {b : Bool} : isTyB "bool" (tyName (.bool b)) = true := by with_unfolding_all rfl
theorem is_bool_int {i : Int} : isTyB "bool" (tyName (.int i)) = false := by with_unfolding_all rfl
theorem is_bool_str {z : Str} : isTyB "bool" (tyName (.str z)) = false := by with_unfolding_all rfl
theorem is_bool_list {ds : List PyData} : isTyB "bool" (tyName (.list ds)) = false := by with_unfolding_all rfl
theorem is_bool_tuple {ds : List PyData} : isTyB "bool" (tyName (.tuple ds)) = false := by with_unfolding_all rfl
theorem is_bool_dict {kvs : List (PyData × PyData)} : isTyB "bool" (tyName (.dict kvs)) = false := by with_unfolding_all rfl
theorem okT_str : okTy "str" = true := by decide +kernel
theorem is_str_none : isTyB "str" (tyName (.none)) = false := by with_unfolding_all rfl
theorem is_str_bool {b : Bool} : isTyB "str" (tyName (.bool b)) = false := by with_unfolding_all rfl
theorem is_str_int {i : Int} : isTyB "str" (tyName (.int i)) = false := by with_unfolding_all rfl
theorem is_str_str {z : Str} : isTyB "str" (tyName (.str z)) = true := by with_unfolding_all rfl
theorem is_str_list {ds : List PyData} : isTyB "str" (tyName (.list ds)) = false := by with_unfolding_all rfl
theorem is_str_tuple {ds : List PyData} : isTyB "str" (tyName (.tuple ds)) = false := by with_unfolding_all rfl
theorem is_str_dict {kvs : List (PyData × PyData)} : isTyB "str" (tyName (.dict kvs)) = false := by with_unfolding_all rfl
theorem okT_tuple : okTy "tuple" = true := by decide +kernel
theorem is_tuple_none : isTyB "tuple" (tyName (.none)) = false := by with_unfolding_all rfl
theorem is_tuple_bool {b : Bool} : isTyB "tuple" (tyName (.bool b)) = false := by with_unfolding_all rfl
theorem is_tuple_int {i : Int} : isTyB "tuple" (tyName (.int i)) = false := by with_unfolding_all rfl
theorem is_tuple_str {z : Str} : isTyB "tuple" (tyName (.str z)) = false := by with_unfolding_all rfl
theorem is_tuple_list {ds : List PyData} : isTyB "tuple" (tyName (.list ds)) = false := by with_unfolding_all rfl
theorem is_tuple_tuple {ds : List PyData} : isTyB "tuple" (tyName (.tuple ds)) = true := by with_unfolding_all rfl
theorem is_tuple_dict {kvs : List (PyData × PyData)} : isTyB "tuple" (tyName (.dict kvs)) = false := by with_unfolding_all rfl
theorem okT_list : okTy "list" = true := by decide +kernel
theorem is_list_none : isTyB "list" (tyName (.none)) = false := by with_unfolding_all rfl
theorem is_list_bool {b : Bool} : isTyB "list" (tyName (.bool b)) = false := by with_unfolding_all rfl
theorem is_list_int {i : Int} : isTyB "list" (tyName (.int i)) = false := by with_unfolding_all rfl
theorem is_list_str {z : Str} : isTyB "list" (tyName (.str z)) = false := by with_unfolding_all rfl
theorem is_list_list {ds : List PyData} : isTyB "list" (tyName (.list ds)) = true := by with_unfolding_all rfl
theorem is_list_tuple {ds : List PyData} : isTyB "list" (tyName (.tuple ds)) = false := by with_unfolding_all rfl
theorem is_list_dict {kvs : List (PyData × PyData)} : isTyB "list" (tyName (.dict kvs)) = false := by with_unfolding_all rfl
theorem is_dict_none : isTyB "dict" (tyName (.none)) = false := by with_unfolding_all rfl
theorem is_dict_bool {b : Bool} : isTyB "dict" (tyName (.bool b)) = false := by with_unfolding_all rfl
theorem is_dict_int {i : Int} : isTyB "dict" (tyName (.int i)) = false := by with_unfolding_all rfl
theorem is_dict_str {z : Str} : isTyB "dict" (tyName (.str z)) = false := by with_unfolding_all rfl
theorem is_dict_list {ds : List PyData} : isTyB "dict" (tyName (.list ds)) = false := by with_unfolding_all rfl
theorem is_dict_tuple {ds : List PyData} : isTyB "dict" (tyName (.tuple ds)) = false := by with_unfolding_all rfl
theorem is_dict_dict {kvs : List (PyData × PyData)} : isTyB "dict" (tyName (.dict kvs)) = true := by with_unfolding_all rfl
theorem de_gtup {X : Cx} {E : WXs} {x : Str} {pos : Pos} {vs : List V} {ds : List PyData} (hkw : TabC.kw) (hg : Gl X x) (h : ∃ a, X.mg x = some (.ref a) ∧ KwT X.K a vs) (r : ∀ (W : Addr → Prop) (H : Hp), ImAll X.K W H vs ds) (hd : (x == "__debug__") = false := by decide) : DEx X E (.Name x pos) (wC (.d (.tuple ds))) := by
  obtain ⟨a, hm, kw⟩ := h
  exact de_c (v := .ref a) (C8.pe_gc (v := .ref a) hg ⟨_, hm, rfl⟩ hd) fun Z => .tup (.inr ⟨hkw, kw⟩) (r _ _)
end Pz
set_option maxRecDepth 100000
namespace Pz
open PySem PySem.Spec PyProof.Rows L2 TL
variable [PenC]
section
variable {K : Frag}
def flatD : PyData → Bool
  | .none => true
  | .bool _ => true
  | .int _ => true
  | .str _ => true
  | _ => false
theorem im_flat {W : Addr → Prop} {H : Hp} {v : V} {d : PyData} (q : Im K W H v d) (h : flatD d = true) : flatV v = true := by
  cases q <;> first | rfl | cases h
theorem im_eq {W : Addr → Prop} {H : Hp} {v u : V} {d e : PyData} (q : Im K W H v d) (r : Im K W H u e) (h1 : flatD d = true) (h2 : flatD e = true) : eqV v u = PyData.eqv d e := by
  cases q <;> first | (cases h1; done) | (cases r <;> first | (cases h2; done) | simp [eqV, PyData.eqv])
theorem im_flats {W : Addr → Prop} {H : Hp} : ∀ {vs : List V} {ds : List PyData}, ImAll K W H vs ds → ds.all flatD = true → vs.all flatV = true
  | _, _, .nil, _ => rfl
  | _, _, .cons q r, h => by
    rw [List.all_cons, Bool.and_eq_true] at h
    rw [List.all_cons, im_flat q h.1, im_flats r h.2]; rfl
theorem im_in {W : Addr → Prop} {H : Hp} {v : V} {d : PyData} (q : Im K W H v d) (h1 : flatD d = true) : ∀ {vs : List V} {ds : List PyData}, ImAll K W H vs ds → ds.all flatD = true → inV v vs = ds.any fun z => PyData.eqv z d
  | _, _, .nil, _ => rfl
  | _, _, .cons q' r, h => by
    rw [List.all_cons, Bool.and_eq_true] at h
    have := im_in q h1 r h.2
    unfold inV at *
    rw [List.any_cons, List.any_cons, this, im_eq q' q h.1 h1]
def oInX (neg : Bool) (x y : Sl) (st : Sto) (Q : DK) : Prop := match vw st x, vw st y with
  | some d, some (.list ds) => SeqAt.shaped d = true ∧ SeqAt.shaped (.list ds) = true ∧ Q (.d (.bool (if neg then !ds.any fun z => PyData.eqv z d else ds.any fun z => PyData.eqv z d))) st
  | some d, some (.tuple ds) => flatD d = true ∧ ds.all flatD = true ∧ Q (.d (.bool (if neg then !ds.any fun z => PyData.eqv z d else ds.any fun z => PyData.eqv z d))) st
  | some (.str z), some (.str y) => ∃ c, z = ⟨#[c]⟩ ∧ Q (.d (.bool (if neg then !decide (c ∈ tl y) else decide (c ∈ tl y)))) st
  | _, _ => False
def rInX (K : Frag) : R2 := fun x y H Q => rInD K x y H Q ∨ rIn K false x y H Q ∨ ∃ (c : Nat) (z : Str), x = .str ⟨#[c]⟩ ∧ y = .str z ∧ Q (.bl (decide (c ∈ z.cps.toList))) H
def rNinX (K : Frag) : R2 := fun x y H Q => rNotInD K x y H Q ∨ rIn K true x y H Q ∨ ∃ (c : Nat) (z : Str), x = .str ⟨#[c]⟩ ∧ y = .str z ∧ Q (.bl (!decide (c ∈ z.cps.toList))) H
theorem op_inX {X : Cx} (hu : X.A.units + 65 < cLine) : OpR X (compareOp .In) (rInX X.K) := (op_inD hu).or (op_in_seq.or op_in_sign)
theorem op_ninX {X : Cx} (hu : X.A.units + 65 < cLine) : OpR X (compareOp .NotIn) (rNinX X.K) := (op_notInD hu).or (op_notIn_seq.or op_notIn_sign)
theorem d2_inX : D2 K (rInX K) (oInX false) := by
  intro Z v u s t Qd Q ok r1 r2 w k
  unfold oInX at w
  split at w
  · rename_i a b e1 e2
    exact .inl ⟨a, b, r1.dp ok e1 (shaped_dict w.1), r2.dp ok e2 (shaped_dict w.2.1), w.1, w.2.1, k.now ok (.bl _) w.2.2⟩
  · rename_i d ds e1 e2
    obtain ⟨p, xs, rfl, h1, q1⟩ := r2.tuple e2
    have q0 := r1.data e1 fun ds h => by rw [h] at w; exact absurd w.1 (by simp [flatD])
    refine .inr (.inl ⟨p, xs, rfl, .inr h1.sq, im_flat q0 w.1, im_flats q1 w.2.1, ?_⟩)
    rw [im_in q0 w.1 q1 w.2.1]
    exact k.now ok (.bl _) w.2.2
  · rename_i z y e1 e2
    obtain ⟨c, rfl, q⟩ := w
    exact .inr (.inr ⟨c, y, r1.str e1, r2.str e2, k.now ok (.bl _) q⟩)
  · exact w.elim
theorem d2_ninX : D2 K (rNinX K) (oInX true) := by
  intro Z v u s t Qd Q ok r1 r2 w k
  unfold oInX at w
  split at w
  · rename_i a b e1 e2
    exact .inl ⟨a, b, r1.dp ok e1 (shaped_dict w.1), r2.dp ok e2 (shaped_dict w.2.1), w.1, w.2.1, k.now ok (.bl _) w.2.2⟩
  · rename_i d ds e1 e2
    obtain ⟨p, xs, rfl, h1, q1⟩ := r2.tuple e2
    have q0 := r1.data e1 fun ds h => by rw [h] at w; exact absurd w.1 (by simp [flatD])
    refine .inr (.inl ⟨p, xs, rfl, .inr h1.sq, im_flat q0 w.1, im_flats q1 w.2.1, ?_⟩)
    rw [im_in q0 w.1 q1 w.2.1]
    exact k.now ok (.bl _) w.2.2
  · rename_i z y e1 e2
    obtain ⟨c, rfl, q⟩ := w
    exact .inr (.inr ⟨c, y, r1.str e1, r2.str e2, k.now ok (.bl _) q⟩)
  · exact w.elim
def oIsB (x y : Sl) (st : Sto) (Q : DK) : Prop := match vw st x, vw st y with
  | some (.bool a), some (.bool b) => Q (.d (.bool (decide (a = b)))) st
  | _, _ => False
def oNotB (x y : Sl) (st : Sto) (Q : DK) : Prop := match vw st x, vw st y with
  | some (.bool a), some (.bool b) => Q (.d (.bool (!decide (a = b)))) st
  | _, _ => False
def intFrom (d : PyData) (m : Int) : Bool := match d with
  | .int i => decide (m ≤ i)
  | _ => false
def intBetw (d : PyData) (m g : Int) : Bool := match d with
  | .int i => decide (m ≤ i) && decide (i ≤ g)
  | _ => false
def isWord (d : PyData) : Bool := match d with
  | .str z => decide (Str.ofString "expand" = z) || decide (Str.ofString "collapse" = z)
  | _ => false
def isOp (d : PyData) : Bool := match d with
  | .tuple [w, s] => isWord w && intBetw s 1 1000000000
  | _ => false
end
end Pz
set_option maxRecDepth 100000
namespace Pz
open PySem PySem.Spec PyProof.Rows L2 TL
variable [PenC]
section
variable {prog : Program} {w : World} {A : Around} {E : Value → Shared → Prop} {s : Shared}
set_option maxHeartbeats 1000000 in
theorem meets_enum1 {v : Value} {o : Obj} {G : Heap → Prop} (B : Begins v o G) : Meets (Builtin.«enumerate.__new__» ⟨[.type "enumerate", v], []⟩) (fun _ R s => G s.heap ∧ R (.ok (.ret (.ref (s.heap.push o).objs.size))) { s with heap := (s.heap.push o).push { cls := .type "enumerate", data := .fields #[.none, .bool false, .ref s.heap.objs.size, rawInt 0, .none, .none] } }) := .of_wp fun prog w A R s hs => by
    obtain ⟨hp, gg, dd, kk, oo⟩ := s
    obtain ⟨st, hs⟩ := hs
    have sb := sub_enumerate
    have qi : ∀ {A' : Around} {E Q : Value → Shared → Prop}, Q (.ref hp.objs.size) ⟨hp.push o, gg, dd, kk, oo⟩ → wpAny (model prog w) A' (pyIter v) Q E ⟨hp, gg, dd, kk, oo⟩ := fun q => B.iter prog w _ _ ⟨hp, gg, dd, kk, oo⟩ _ st q
    wp_walk using qi
    refine wpAny_stack_any fun st2 => wpAny_pure ?_
    split
    · rename_i c _ _ _ _ _
      cases (c == Value.type "enumerate") <;> (wp_walk using qi; exact ⟨_, rfl, hs⟩)
    · wp_walk using qi; exact ⟨_, rfl, hs⟩
theorem enum1_begins {v : Value} {o : Obj} {G : Heap → Prop} {Q : Value → Shared → Prop} (B : Begins v o G) (st : G s.heap)
    (q : ∀ h', IsEnum h' (s.heap.objs.size + 1) s.heap.objs.size 0 .none → h'.get? s.heap.objs.size = some o → (∀ b ob, s.heap.get? b = some ob → h'.get? b = some ob) → Q (.ref (s.heap.objs.size + 1)) { s with heap := h' }) : wpAny (model prog w) A (call (.type "enumerate") [v]) Q E s := by
  refine callType_new F.called_enumerate (by decide) (F.typeCall_enumerate_1 _) (F.newCall_enumerate_1 _) (fun obj => F.args_object_init_2 obj _) F.entry_enumerate_new (meets_enum1 B) ⟨st, ?_⟩
  have z : (s.heap.push o).objs.size = s.heap.objs.size + 1 := Heap.size_push ..
  show _ ∧ _
  rw [z]
  have g := Heap.get?_push_size (s.heap.push o) (o := { cls := .type "enumerate", data := .fields #[.none, .bool false, .ref s.heap.objs.size, rawInt 0, .none, .none] }) rfl
  rw [z] at g
  exact ⟨⟨_, g, rfl⟩, q _ g (Heap.get?_push_of_some _ (Heap.get?_push_size _ B.free)) fun b ob e => Heap.get?_push_of_some _ (Heap.get?_push_of_some _ e)⟩
theorem wpAny_pyNext_enum_endT {e it a : Addr} {i : Nat} {items : Array Value} {old : Value} {Q : Option Value → Shared → Prop} (hh : A.handled = none) (he : IsEnum s.heap e it i old) (hit : s.heap.IsTupleIter it a i) (ht : s.heap.IsTuple a items) (hx : items[i]? = none)
    (q : ∀ h', Heap.ExtBut it s.heap h' → Q none { s with heap := h' }) : wpAny (model prog w) A (pyNext (.ref e)) Q E s := by
  have ty : s.TypeIs (.ref e) "enumerate" := ⟨_, he, rfl⟩
  unfold pyNext
  refine wpAny_bind (wpAny_attempt (wpAny_callSpecial?_slot (name := Str.ofString "__next__") ty F.slot_enumerate_next (wpAny_call_entry F.slot_enumerate_next ty F.entry_enumerate_next ?_ (F.args_enumerate_next_1 _))))
  change wpAny _ _ (field (.ref e) 2 >>= _) _ _ _
  refine wpAny_bind (wpAny_field he rfl (x := .ref it) rfl ?_)
  refine wpAny_bind (wpAny_nextOf_tuple_end hh hit ht hx fun h' x kp ex => ?_)
  obtain ⟨o, e1, e2⟩ := ex
  exact wpAny_bind (wpAny_isInstance (T := "StopIteration") (b := true) ⟨o, e1, e2⟩ isSubtype_stop (wpAny_pure (q _ kp)))
end
def IteT (K : Frag) (a : Addr) : It :=
  ⟨fun i H => ∃ (xs : List V) (x : V), SqT K H a xs ∧ xs[i]? = some x,
   fun i H v H' => ∃ T x, v = .ref T ∧ H T = none ∧ H' = upd H T (.tup [.int (i : Nat), x]) ∧ ∀ xs, SqT K H a xs → xs[i]? = some x,
   fun i H => ∃ xs : List V, SqT K H a xs ∧ xs.length ≤ i⟩
theorem turn_enumT {P : Program} {w : World} {K : Frag} {elts : List Expr} {kk : Nat} {tpos : Pos} (a e it : Addr) :
    Turn P w K (.Tuple elts kk tpos) (IteT K a) [e, it] e (fun i h => (∃ old, IsEnum h e it ((i : Nat) : Int) old) ∧ h.IsTupleIter it a i ∧ e ≠ it ∧ e ≠ a ∧ a ≠ it) where
  mem := by simp
  obj := fun i h st b hb => by
    obtain ⟨⟨old, he⟩, ⟨o, ho, _, hd⟩, _⟩ := st
    simp only [List.mem_cons, List.not_mem_nil, or_false] at hb
    rcases hb with rfl | rfl
    · exact ⟨_, he, fun v q => nomatch q⟩
    · exact ⟨o, ho, fun v q => by rw [hd] at q; cases q⟩
  keep := fun i h h' st k => by
    obtain ⟨⟨old, he⟩, hi, hne⟩ := st
    exact ⟨⟨old, k e (by simp) _ he⟩, hi.at fun o q => k it (by simp) o q, hne⟩
  item := by
    intro X hP hw hK hc i pins s σ H E I hf st hg
    subst hP hw hK
    obtain ⟨⟨old, he⟩, hit, hne, hea, hai⟩ := st
    obtain ⟨xs, x, hq, hx⟩ := hg
    obtain ⟨its, rv, p, hz⟩ := I.tuple hq
    obtain ⟨u, hu, ru⟩ := rv.get hx
    have hel := Heap.lt_size he
    have hil : it < s.heap.objs.size := by obtain ⟨_, q, _⟩ := hit; exact Heap.lt_size q
    have hlen : i < its.toArray.size := by have := (List.getElem?_eq_some_iff.mp hu).1; simpa using this
    have D := Draws.tuple (prog := X.prog) (w := X.w) (A := X.A.in1) (I.ok.hd hc) it a hai its.toArray
    refine wpAny_pyNext_enum_itemD D he ⟨hit, p⟩ hlen hne (by simp [hne, hea]) fun y h' tk hy ho hit' hT hsz hk => ?_
    obtain rfl : y = u := by
      have : its.toArray[i]? = some u := by simpa using hu
      exact Option.some.inj (hy.symm.trans this)
    refine ⟨_, rfl, wpAny_letOwnedTupleGo_enum (s := { s with heap := h', toks := tk + 1 }) ho fun h2 he' sb => ?_⟩
    have hT2 : h2.get? s.heap.objs.size = some { cls := .type "tuple", data := .seq #[.int i tk, y] } := (sb.2 _ (Nat.ne_of_gt hel)).trans hT
    have ok2 : ObjOk X.prog X.w (upd H s.heap.objs.size (.tup [.int (i : Nat), x])) h2 s.heap.objs.size (.tup [.int (i : Nat), x]) := ⟨by show 2 ≤ sizeLine; decide, [.int i tk, y], .cons ⟨_, rfl⟩ (.cons ru .nil), ⟨_, hT2, rfl, _, rfl⟩⟩
    have kp : ∀ b ob, b ∉ [e, it] → s.heap.get? b = some ob → h2.get? b = some ob := fun b ob hb q => by
      simp only [List.mem_cons, List.not_mem_nil, or_false, not_or] at hb
      exact (sb.2 b hb.1).trans (hk b ob hb.1 hb.2 q)
    have I1 : Inv X pins σ (upd H s.heap.objs.size (.tup [.int (i : Nat), x])) { s with heap := h2, toks := tk + 1 } := I.turnedNew (ch := [e, it]) kp hf (Nat.le_refl _) ok2
    have e1 : ((i + 1 : Nat) : Int) = (i : Int) + 1 := by omega
    refine ⟨.ref s.heap.objs.size, _, I1, rfl, ⟨_, x, rfl, I.hok.fresh (Nat.le_refl _), rfl, fun ys hy => by rw [I.tuple_inj hy hq]; exact hx⟩, ⟨⟨y, by rw [e1]; exact he'⟩, hit'.1.at fun o q => (sb.2 it (Ne.symm hne)).trans q, hne, hea, hai⟩, fun b hb => ?_⟩
    have hb' : b < s.heap.objs.size := by
      simp only [List.mem_cons, List.not_mem_nil, or_false] at hb
      rcases hb with rfl | rfl
      · exact hel
      · exact hil
    rw [upd_ne (Nat.ne_of_lt hb')]
    exact (hf b hb).1
  done := by
    intro X hP hw hK hc i pins s σ H E I hf st hg
    subst hP hw hK
    obtain ⟨⟨old, he⟩, hit, hne, hea, hai⟩ := st
    obtain ⟨xs, hq, hx⟩ := hg
    obtain ⟨its, rv, p, hz⟩ := I.tuple hq
    obtain ⟨f0, f1, f2, f3, f4, f5⟩ := hf it (by simp)
    have hl := rv.length
    exact wpAny_pyNext_enum_endT (I.ok.hd hc) he hit p (by simp; omega) fun h' eb => ⟨rfl, I.turned (t' := s.toks) (fun b o hb q => eb b o hb q) f0 f1 f3 f4 f5⟩
  self := fun A i s Q E st h => by obtain ⟨⟨_, he⟩, _⟩ := st; exact wpAny_pyIter_enum he h
def iEnumA (K : Frag) (ta : TA) : TI := fun σ H R => ta σ H fun vs H1 => ∃ a xs, vs = [.ref a] ∧ ((SqL K H1 a xs ∧ R (Ite K a) H1) ∨ (SqT K H1 a xs ∧ R (IteT K a) H1))
theorem itd_enumT {K : Frag} {Z1 : Zs} {a : Addr} {xs : List V} {ds : List PyData} (h : ImT K Z1.W Z1.H a xs) (r : Z1.ImAll K xs ds) : ItD K (IteT K a) Z1 (enumD 0 ds) where
  go := fun Z k ok i hi => by
    rw [enum_len] at hi
    exact ⟨xs, xs[i]'(by rw [r.length]; exact hi), (h.tr k).sq, List.getElem?_eq_getElem _⟩
  stop := fun Z k ok => ⟨xs, (h.tr k).sq, by rw [r.length, enum_len]; exact Nat.le_refl _⟩
  yld := fun Z k ok i v H' d e y => by
    obtain ⟨T, x, rfl, nT, rfl, y⟩ := y
    obtain ⟨z, e', rfl⟩ := enum_get e
    obtain ⟨v', e2, r'⟩ := r.get' e'
    obtain rfl : v' = x := by injection e2.symm.trans (y xs (h.tr k).sq)
    have rr : Z.ImAll K [.int ((i : Nat) : Int), v'] [.int ((0 + i : Nat) : Int), z] := by
      rw [Nat.zero_add]
      exact .cons (.int _) (.cons (Im.tr k r') .nil)
    exact ⟨Z.new T (.tup [.int (i : Nat), v']), ok.leNew nT, ok.new nT, rfl, rfl, ok.rpT nT rr⟩
def wEnumX (te : DA) : DI := fun Ed sl st Q => te Ed sl st fun ss st => match ss with
  | [.d (.tuple ds)] => Q (enumD 0 ds) st
  | [.d (.list ds)] => Q (enumD 0 ds) st
  | _ => False
section
variable {X : Cx} {E : WXs} {Z0 : Zs} {e : Expr} {t : DA} {elts : List Expr} {kk : Nat} {pos p tpos : Pos}
theorem wEnumX_ap {te : DA} {Ed : DX} {sl : Sls} {st : Sto} {Q : List PyData → Sto → Prop} : wEnumX te Ed sl st Q = (te Ed sl st fun ss st => match ss with
  | [.d (.tuple ds)] => Q (enumD 0 ds) st
  | [.d (.list ds)] => Q (enumD 0 ds) st
  | _ => False) := rfl
end
def wRevX (te : DE) : DE := fun Ed sl st Q => te Ed sl st fun s st => match vw st s with
  | some (.list ds) => Q (.d (.list ds.reverse)) st
  | some (.tuple ds) => Q (.d (.tuple ds.reverse)) st
  | _ => False
end Pz
set_option maxRecDepth 100000
namespace Pz
open PySem PySem.Spec PyProof.Rows L2 TL
variable [PenC]
structure FAtK (K : Frag) (mg : Str → Option Value) (x : Str) (st : Stmt) (kws : List (Str × V)) (f : Addr) (fd : FuncData) : Prop where
  F : Fun K x x st f fd
  g : mg x = some (.ref f)
  D : FunD K x x (defArgs st) (defBody st) (defScope st) [] kws f fd
structure KwE (K : Frag) (fd : FuncData) (ps : List Str) (n : Nat) (ks : List Str) (gS : List Sl → List Sl → List Sl) : Prop where
  ex : ∃ (g : List Value → List Value → List Value) (gV : List V → List V → List V),
    (∀ (s : Shared) (us ws : List Value), K.In s.heap → us.length = n → ws.length = ks.length → BindsTo s fd ⟨us, ks.zip ws⟩ (ps.zip (g us ws))) ∧
    (∀ {vs : List V} {us : List Value} {zs : List V} {ws : List Value}, vs.length = n → zs.length = ks.length → Vals vs us → Vals zs ws → Vals (gV vs zs) (g us ws)) ∧
    (∀ {Z : Zs} {vs zs : List V} {ss us : List Sl}, ss.length = n → us.length = ks.length → RpAll K Z vs ss → RpAll K Z zs us → RpAll K Z (gV vs zs) (gS ss us))
section
variable {K : Frag} {x : Str} {st : Stmt} {kws : List (Str × V)} {f : Addr} {fd : FuncData} {ps : List Str} {mg : Str → Option Value}
end
section
variable {X : Cx} {E : WXs} {k n m : Nat} {fa : Addr} {fd : FuncData} {ps ks : List Str} {f : FD} {x : Str} {p pos : Pos} {e : Expr} {es : List Expr} {t tk : DA} {kws : List Keyword} {gS : List Sl → List Sl → List Sl}
def wCallE (n m : Nat) (f : FD) (g : List Sl → List Sl → List Sl) (t tk : DA) : DE := fun Ed sl st Q => t Ed sl st fun ss st => tk Ed sl st fun zs st => ss.length = n ∧ zs.length = m ∧ f (g ss zs) fun d => Q (.d d) st
theorem wCallE_ap {g : List Sl → List Sl → List Sl} {Ed : DX} {sl : Sls} {st : Sto} {Q : DK} : wCallE n m f g t tk Ed sl st Q = (t Ed sl st fun ss st => tk Ed sl st fun zs st => ss.length = n ∧ zs.length = m ∧ f (g ss zs) fun d => Q (.d d) st) := rfl
end
end Pz
set_option maxRecDepth 100000
namespace Pz
open PySem PySem.Spec PyProof.Rows L2 TL
variable [PenC]
section
variable {X : Cx} {E : WXs} {Z0 : Zs} {a b c e : Expr} {es rest : List Expr} {ta tb tc te : DE} {t : DA} {pos p p2 : Pos} {x : Str} {K : Frag} {lo hi : Option Expr} {tlo thi : DO}
def wOrX (ta tb : DE) : DE := fun Ed sl st Q => ta Ed sl st fun s st => match truD st s with
  | some b => if b = true then Q s st else tb Ed sl st Q
  | none => False
def wAndX (ta tb : DE) : DE := fun Ed sl st Q => ta Ed sl st fun s st => match truD st s with
  | some b => if b = true then tb Ed sl st Q else Q s st
  | none => False
def oSlO (s : Sl) (lo hi : Option Int) (st : Sto) (Q : DK) : Prop := match vw st s with
    | some (.list ds) => Q (.o st.length) (st ++ [.lst (cutD ds lo hi)])
    | _ => False
def wSlO (te : DE) (tl th : DO) : DE := fun Ed sl st Q => te Ed sl st fun s st => tl Ed sl st fun lo st => th Ed sl st fun hi st => oSlO s lo hi st Q
theorem wSlO_ap {tl th : DO} {Ed : DX} {sl : Sls} {st : Sto} {Q : DK} : wSlO te tl th Ed sl st Q = (te Ed sl st fun s st => tl Ed sl st fun lo st => th Ed sl st fun hi st => oSlO s lo hi st Q) := rfl
theorem cut_mem {α : Type} {xs : List α} {lo hi : Option Int} {d : α} (h : d ∈ cutD xs lo hi) : d ∈ xs := List.mem_of_mem_drop (List.mem_of_mem_take h)
theorem cut_len {α : Type} {xs : List α} {lo hi : Option Int} : (cutD xs lo hi).length ≤ xs.length := by
  unfold cutD
  rw [List.length_take, List.length_drop]
  omega
theorem Ints.cut {P : Int → Prop} {ds : List PyData} {lo hi : Option Int} (h : Ints P ds) : Ints P (cutD ds lo hi) := fun d m => h d (cut_mem m)
theorem sIx_pos {n d : Nat} {j : Int} (h : 0 ≤ j) : HT.sIx n d (some j) = min j.toNat n := by
  unfold HT.sIx
  dsimp only
  rw [if_neg (by omega)]
theorem cut_take {α : Type} {xs : List α} {j : Int} (h : 0 ≤ j) : cutD xs none (some j) = xs.take j.toNat := by
  unfold cutD
  rw [sIx_pos h, HT.sIx_none, List.drop_zero, Nat.sub_zero]
  rcases Nat.le_total xs.length j.toNat with c | c
  · rw [List.take_of_length_le (by omega), List.take_of_length_le c]
  · congr 1; omega
theorem cut_drop {α : Type} {xs : List α} {j : Int} (h : 0 ≤ j) : cutD xs (some j) none = xs.drop j.toNat := by
  unfold cutD
  rw [sIx_pos h, HT.sIx_none, List.take_of_length_le (by rw [List.length_drop]; omega)]
  rcases Nat.le_total xs.length j.toNat with c | c
  · rw [List.drop_of_length_le (by omega), List.drop_of_length_le c]
  · congr 1; omega
theorem cut_hi {α : Type} {xs : List α} {j : Int} (h : 0 ≤ j) : (cutD xs none (some j)).length = min xs.length j.toNat := by
  rw [cut_take h, List.length_take]; omega
end
end Pz
set_option maxRecDepth 100000
namespace Pz
open PySem PySem.Spec PyProof.Rows L2 TL
variable [PenC]
def IteS (x : Str) : It :=
  ⟨fun i _ => i < x.cps.size,
   fun i H v H' => ∃ T c, v = .ref T ∧ H T = none ∧ H' = upd H T (.tup [.int (i : Nat), .str ⟨#[c]⟩]) ∧ x.cps[i]? = some c,
   fun i _ => x.cps.size ≤ i⟩
theorem turn_enumS {P : Program} {w : World} {K : Frag} {elts : List Expr} {kk : Nat} {tpos : Pos} (x : Str) (t : Tok) (e it : Addr) :
    Turn P w K (.Tuple elts kk tpos) (IteS x) [e, it] e (fun i h => (∃ old, IsEnum h e it ((i : Nat) : Int) old) ∧ h.IsStrIter it (strIterType x) x t i ∧ e ≠ it ∧ i ≤ x.cps.size) where
  mem := by simp
  obj := fun i h st b hb => by
    obtain ⟨⟨old, he⟩, ⟨o, ho, _, hd⟩, _⟩ := st
    simp only [List.mem_cons, List.not_mem_nil, or_false] at hb
    rcases hb with rfl | rfl
    · exact ⟨_, he, fun v q => nomatch q⟩
    · exact ⟨o, ho, fun v q => by rw [hd] at q; cases q⟩
  keep := fun i h h' st k => by
    obtain ⟨⟨old, he⟩, ⟨o, ho, r⟩, hne⟩ := st
    exact ⟨⟨old, k e (by simp) _ he⟩, ⟨o, k it (by simp) o ho, r⟩, hne⟩
  item := by
    intro X hP hw hK hc i pins s σ H E I hf st hg
    subst hP hw hK
    obtain ⟨⟨old, he⟩, hit, hne, hi⟩ := st
    have hel := Heap.lt_size he
    have hil : it < s.heap.objs.size := by obtain ⟨_, q, _⟩ := hit; exact Heap.lt_size q
    have D := Draws.text (prog := X.prog) (w := X.w) (A := X.A.in1) (I.ok.hd hc) it x t
    refine wpAny_pyNext_enum_itemD D he hit hg hne (by simp [hne]) fun y h' tk hy ho hit' hT hsz hk => ?_
    obtain ⟨c, u, hcx, rfl⟩ := hy
    refine ⟨_, rfl, wpAny_letOwnedTupleGo_enum (s := { s with heap := h', toks := tk + 1 }) ho fun h2 he' sb => ?_⟩
    have hT2 : h2.get? s.heap.objs.size = some { cls := .type "tuple", data := .seq #[.int i tk, .str ⟨#[c]⟩ u] } := (sb.2 _ (Nat.ne_of_gt hel)).trans hT
    have ok2 : ObjOk X.prog X.w (upd H s.heap.objs.size (.tup [.int (i : Nat), .str ⟨#[c]⟩])) h2 s.heap.objs.size (.tup [.int (i : Nat), .str ⟨#[c]⟩]) := ⟨by show 2 ≤ sizeLine; decide, [.int i tk, .str ⟨#[c]⟩ u], .cons ⟨_, rfl⟩ (.cons ⟨_, rfl⟩ .nil), ⟨_, hT2, rfl, _, rfl⟩⟩
    have kp : ∀ b ob, b ∉ [e, it] → s.heap.get? b = some ob → h2.get? b = some ob := fun b ob hb q => by
      simp only [List.mem_cons, List.not_mem_nil, or_false, not_or] at hb
      exact (sb.2 b hb.1).trans (hk b ob hb.1 hb.2 q)
    have I1 : Inv X pins σ (upd H s.heap.objs.size (.tup [.int (i : Nat), .str ⟨#[c]⟩])) { s with heap := h2, toks := tk + 1 } := I.turnedNew (ch := [e, it]) kp hf (Nat.le_refl _) ok2
    have e1 : ((i + 1 : Nat) : Int) = (i : Int) + 1 := by omega
    have hit2 : h2.IsStrIter it (strIterType x) x t (i + 1) := by
      obtain ⟨o, q, r⟩ := hit'
      exact ⟨o, (sb.2 it (Ne.symm hne)).trans q, r⟩
    refine ⟨.ref s.heap.objs.size, _, I1, rfl, ⟨_, c, rfl, I.hok.fresh (Nat.le_refl _), rfl, hcx⟩, ⟨⟨_, by rw [e1]; exact he'⟩, hit2, hne, hg⟩, fun b hb => ?_⟩
    have hb' : b < s.heap.objs.size := by
      simp only [List.mem_cons, List.not_mem_nil, or_false] at hb
      rcases hb with rfl | rfl
      · exact hel
      · exact hil
    rw [upd_ne (Nat.ne_of_lt hb')]
    exact (hf b hb).1
  done := by
    intro X hP hw hK hc i pins s σ H E I hf st hg
    subst hP hw hK
    obtain ⟨⟨old, he⟩, hit, hne, hi⟩ := st
    obtain ⟨f0, f1, f2, f3, f4, f5⟩ := hf it (by simp)
    obtain rfl : i = x.cps.size := Nat.le_antisymm hi hg
    have D := Draws.text (prog := X.prog) (w := X.w) (A := X.A.in1) (I.ok.hd hc) it x t
    exact wpAny_pyNext_enum_endD D he hit fun h' eb => ⟨rfl, I.turned (t' := s.toks) (fun b o hb q => eb b o hb q) f0 f1 f3 f4 f5⟩
  self := fun A i s Q E st h => by obtain ⟨⟨_, he⟩, _⟩ := st; exact wpAny_pyIter_enum he h
def iEnumB (K : Frag) (ta : TA) : TI := fun σ H R => ta σ H fun vs H1 => (∃ a xs, vs = [.ref a] ∧ ((SqL K H1 a xs ∧ R (Ite K a) H1) ∨ (SqT K H1 a xs ∧ R (IteT K a) H1))) ∨ ∃ x, vs = [.str x] ∧ R (IteS x) H1
theorem pi_enumB {X : Cx} {e : Expr} {ta : TA} {p pos tpos : Pos} {elts : List Expr} {kk : Nat} (hg : Gl X "enumerate") (hm : X.mg "enumerate" = none) (ha : PA X [e] ta) (hs : starEach [e] X.env = [(false, eval e X.env)]) : PI X (.Tuple elts kk tpos) (.Call (.Name "enumerate" p) [e] [] pos) (iEnumB X.K ta) := by
  refine ⟨fun pins s σ H R I h => ?_⟩
  refine Call_ (ld_blt I hg hm boot_enumerate (PyProof.Rows.callWith_type1 (thn (ha.run pos pins s σ H _ I h) fun us s1 q1 => ?_) hs rfl))
  obtain ⟨vs, H1, I1, r1, q1⟩ := q1
  have fp : ∀ b ∈ [s1.heap.objs.size + 1, s1.heap.objs.size], FpOk X pins H1 b := fun b hb => by
    have hle : s1.heap.objs.size ≤ b := by
      simp only [List.mem_cons, List.not_mem_nil, or_false] at hb
      rcases hb with rfl | rfl
      · exact Nat.le_add_right _ _
      · exact Nat.le_refl _
    exact I1.fpOk hle (I1.hok.fresh hle)
  rcases q1 with ⟨a, xs, rfl, ⟨hq, q⟩ | ⟨hq, q⟩⟩ | ⟨x, rfl, q⟩
  · obtain ⟨u, rfl, ru⟩ := vals1 r1
    obtain rfl := ru
    obtain ⟨its, rv, p', hz⟩ := I1.list hq
    refine enum1_begins (begins_list a its.toArray) p'.isList fun h' he hit hk => wpAny_pyIter_enum he ?_
    have I2 : Inv X pins σ H1 { s1 with heap := h' } := I1.kept (t' := s1.toks) hk
    exact ⟨s1.heap.objs.size + 1, _, _, _, H1, rfl, I2, turn_enum a (s1.heap.objs.size + 1) s1.heap.objs.size, ⟨⟨.none, he⟩, ⟨_, hit, rfl, rfl⟩, Nat.succ_ne_self _⟩, fp, q⟩
  · obtain ⟨u, rfl, ru⟩ := vals1 r1
    obtain rfl := ru
    obtain ⟨its, rv, p', hz⟩ := I1.tuple hq
    have la : a < s1.heap.objs.size := by obtain ⟨o, e, _⟩ := id p'; exact Heap.lt_size e
    refine enum1_begins (begins_tuple a its.toArray) p' fun h' he hit hk => wpAny_pyIter_enum he ?_
    have I2 : Inv X pins σ H1 { s1 with heap := h' } := I1.kept (t' := s1.toks) hk
    exact ⟨s1.heap.objs.size + 1, _, _, _, H1, rfl, I2, turn_enumT a (s1.heap.objs.size + 1) s1.heap.objs.size, ⟨⟨.none, he⟩, ⟨_, hit, rfl, rfl⟩, Nat.succ_ne_self _, Nat.ne_of_gt (Nat.lt_succ_of_lt la), Nat.ne_of_lt la⟩, fp, q⟩
  · obtain ⟨u, rfl, t, rfl⟩ := vals1 r1
    refine enum1_begins (begins_text x t) trivial fun h' he hit hk => wpAny_pyIter_enum he ?_
    have I2 : Inv X pins σ H1 { s1 with heap := h' } := I1.kept (t' := s1.toks) hk
    exact ⟨s1.heap.objs.size + 1, _, _, _, H1, rfl, I2, turn_enumS x t (s1.heap.objs.size + 1) s1.heap.objs.size, ⟨⟨.none, he⟩, ⟨_, hit, rfl, rfl⟩, Nat.succ_ne_self _, Nat.zero_le _⟩, fp, q⟩
theorem itd_enumS {K : Frag} {Z1 : Zs} (z : Str) : ItD K (IteS z) Z1 (enumD 0 (Pz.signs z)) where
  go := fun Z k ok i hi => by
    rw [enum_len] at hi
    have : (Pz.signs z).length = z.cps.size := by simp [Pz.signs, tl]
    show i < z.cps.size
    omega
  stop := fun Z k ok => by
    rw [enum_len]
    show z.cps.size ≤ _
    simp [Pz.signs, tl]
  yld := fun Z k ok i v H' d e y => by
    obtain ⟨T, c, rfl, nT, rfl, hc⟩ := y
    obtain ⟨y, e', rfl⟩ := enum_get e
    have e2 : y = .str ⟨#[c]⟩ := by
      unfold Pz.signs at e'
      rw [List.getElem?_map] at e'
      have : (tl z)[i]? = some c := by simpa [tl] using hc
      rw [this] at e'
      exact (Option.some.inj e').symm
    subst e2
    have rr : Z.ImAll K [.int ((i : Nat) : Int), .str ⟨#[c]⟩] [.int ((0 + i : Nat) : Int), .str ⟨#[c]⟩] := by
      rw [Nat.zero_add]
      exact .cons (.int _) (.cons (.str _) .nil)
    exact ⟨Z.new T (.tup [.int (i : Nat), .str ⟨#[c]⟩]), ok.leNew nT, ok.new nT, rfl, rfl, ok.rpT nT rr⟩
def wEnumY (te : DA) : DI := fun Ed sl st Q => te Ed sl st fun ss st => match ss with
  | [.d (.tuple ds)] => Q (enumD 0 ds) st
  | [.d (.list ds)] => Q (enumD 0 ds) st
  | [.d (.str z)] => Q (enumD 0 (Pz.signs z)) st
  | _ => False
section
variable {X : Cx} {E : WXs} {Z0 : Zs} {e : Expr} {t : DA} {elts : List Expr} {kk : Nat} {pos p tpos : Pos} {K : Frag}
theorem di_enumY (hg : Gl X "enumerate") (hm : X.mg "enumerate" = none) (ha : DAs X E [e] t) (hs : starEach [e] X.env = [(false, eval e X.env)] := by rfl) : DIt X E (.Tuple elts kk tpos) (.Call (.Name "enumerate" p) [e] [] pos) (wEnumY t) :=
  ⟨piI (pi_enumB hg hm ha.run hs) fun σ H R ⟨Z, sl, Rd, Ed, h, ok, so, w, k, kx⟩ => ⟨Z, sl, _, Ed, h, ok, so, w, fun Z1 vs ss l1 ok1 r1 w1 => by
    simp only at w1
    split at w1
    · obtain ⟨v, rfl, rv⟩ := rp1 r1
      cases rv with
      | tup hh rr => exact .inl ⟨_, _, rfl, .inr ⟨hh.sq, k Z1 _ _ l1 ok1 (itd_enumT hh rr) w1⟩⟩
    · obtain ⟨v, rfl, rv⟩ := rp1 r1
      cases rv with
      | lst hh nn rr => exact .inl ⟨_, _, rfl, .inl ⟨.of hh, k Z1 _ _ l1 ok1 (itd_enum hh nn rr) w1⟩⟩
    · obtain ⟨v, rfl, rv⟩ := rp1 r1
      cases rv with
      | str z => exact .inr ⟨_, rfl, k Z1 _ _ l1 ok1 (itd_enumS _) w1⟩
    · exact w1.elim, kx⟩⟩
theorem wEnumY_ap {te : DA} {Ed : DX} {sl : Sls} {st : Sto} {Q : List PyData → Sto → Prop} : wEnumY te Ed sl st Q = (te Ed sl st fun ss st => match ss with
  | [.d (.tuple ds)] => Q (enumD 0 ds) st
  | [.d (.list ds)] => Q (enumD 0 ds) st
  | [.d (.str z)] => Q (enumD 0 (Pz.signs z)) st
  | _ => False) := rfl
def fDivmod : FA := fun ss st Q => match ss with
  | [s, t] => match vw st s, vw st t with
    | some (.int i), some (.int j) => CDivP i j ∧ Q (.d (.tuple [.int (i / j), .int (i % j)])) st
    | _, _ => False
  | _ => False
def fStr : FA := fun ss st Q => match ss with
  | [s] => match vw st s with
    | some (.int i) => i.natAbs < 10 ^ 100 ∧ Q (.d (.str (PyData.shown (.int i)))) st
    | _ => False
  | _ => False
theorem shown_int {i : Int} : PyData.shown (.int i) = toString i := rfl
theorem log_small {i : Int} (h : i.natAbs < 10 ^ 100) : i.natAbs.log2 < 1920 := by
  have := int_show h
  simpa [PyData.showable] using this
def rStr : List V → Hp → VK → Prop := fun xs H Q => ∃ i, xs = [.int i] ∧ i.natAbs.log2 < 1920 ∧ Q (.str (toString i)) H
theorem cr_str : CallR X (.type "str") rStr := call_str_int
theorem cd_str : CallD K rStr fStr := by
  intro Z vs ss Qd Q ok ra w k
  unfold fStr at w
  split at w
  · obtain ⟨v, rfl, r1⟩ := rp1 ra
    split at w
    · rename_i i e1
      rw [r1.int e1]
      exact ⟨i, rfl, log_small w.1, k.now ok (.str _) w.2⟩
    · exact w.elim
  · exact w.elim
end
end Pz
set_option maxRecDepth 100000
namespace Pz
open PySem PySem.Spec PyProof.Rows L2 TL
variable [PenC]
section
variable {X : Cx} {E : WXs} {o e f : Expr} {td ty tx : DE} {apos cpos : Pos} {K : Frag}
def wDGet2 (td ty tx : DE) : DE := fun Ed sl st Q => td Ed sl st fun s st => (dkAt st s).isSome = true ∧ ty Ed sl st fun t st => tx Ed sl st fun u st => match dkAt st s, keyS st t with
  | some kvs, some k => match valD kvs k with
    | some d => Q (.d d) st
    | none => Q u st
  | _, _ => False
theorem wDGet2_ap {Ed : DX} {sl : Sls} {st : Sto} {Q : DK} : wDGet2 td ty tx Ed sl st Q = (td Ed sl st fun s st => (dkAt st s).isSome = true ∧ ty Ed sl st fun t st => tx Ed sl st fun u st => match dkAt st s, keyS st t with
  | some kvs, some k => match valD kvs k with
    | some d => Q (.d d) st
    | none => Q u st
  | _, _ => False) := rfl
end
end Pz
set_option maxRecDepth 100000
namespace Pz
open PySem PySem.Spec PyProof.Rows L2 TL
variable [PenC]
def rMaxDf (K : Frag) : List V → List V → Hp → VK → Prop := fun vs zs H Q => ∃ (a : Addr) (ns : List Int) (d : V), vs = [V.ref a] ∧ zs = [d] ∧ (SqL K H a (ns.map V.int) ∨ SqT K H a (ns.map V.int)) ∧ if ns = [] then Q d H else Q (.int (lmax ns)) H
section
variable {X : Cx} {E : WXs} {e f : Expr} {te tx : DE} {x : Str} {p pos kp : Pos} {K : Frag}
def wMaxDf (te tx : DE) : DE := fun Ed sl st Q => te Ed sl st fun s st => tx Ed sl st fun u st => ∃ ns, vwJ st s = some ns ∧ if ns = [] then Q u st else Q (.d (.int (lmax ns))) st
theorem wMaxDf_ap {Ed : DX} {sl : Sls} {st : Sto} {Q : DK} : wMaxDf te tx Ed sl st Q = (te Ed sl st fun s st => tx Ed sl st fun u st => ∃ ns, vwJ st s = some ns ∧ if ns = [] then Q u st else Q (.d (.int (lmax ns))) st) := rfl
end
end Pz
set_option maxRecDepth 100000
namespace Pz
open PySem PySem.Spec PyProof.Rows L2 TL
variable [PenC]
section
variable {X : Cx} {E : WXs} {Z0 : Zs} {e : Expr} {es : List Expr} {t : DA} {pos p : Pos} {x : Str} {f : FD} {n k m : Nat} {N : List Str} {τ : DS}
def spFO (f : FD) : DSp := fun ss cs Q Ed => cs = [] ∧ f ss fun d => match d with
  | .list ds => Q (.o 0) [.lst ds]
  | _ => False
def aFO (f : FD) (ss : List Sl) (st : Sto) (Q : DK) : Prop := f ss fun d => match d with
  | .list ds => Q (.o st.length) (st ++ [.lst ds])
  | _ => False
def wCallFO (f : FD) (t : DA) : DE := fun Ed sl st Q => t Ed sl st fun ss st => aFO f ss st Q
theorem wCallFO_ap {f : FD} {t : DA} {Ed : DX} {sl : Sls} {st : Sto} {Q : DK} : wCallFO f t Ed sl st Q = (t Ed sl st fun ss st => aFO f ss st Q) := rfl
variable {fa : Addr} {fd : FuncData} {ps : List Str}
end
mutual
theorem okR_lay : ∀ {d : PyData}, okR d = true → d.canLay0 = true
  | .none, _ => by rw [PyData.canLay0]
  | .bool _, _ => by rw [PyData.canLay0]
  | .int _, _ => by rw [PyData.canLay0]
  | .str _, h => by rw [PyData.canLay0]; simpa [okR] using h
  | .list _, h => by rw [PyData.canLay0]; exact okR_layAll (by simpa [okR] using h)
  | .tuple _, h => by rw [PyData.canLay0]; exact okR_layAll (by simpa [okR] using h)
  | .dict _, h => by simp [okR] at h
theorem okR_layAll : ∀ {ds : List PyData}, okRAll ds = true → PyData.canLayAll0 ds = true
  | [], _ => by rw [PyData.canLayAll0]
  | d :: ds, h => by
    simp only [okRAll, Bool.and_eq_true] at h
    rw [PyData.canLayAll0, okR_lay h.1, okR_layAll h.2]
    rfl
end
mutual
def plainD : PyData → Bool
  | .none => true
  | .bool _ => false
  | .int _ => true
  | .str _ => true
  | .list xs => plainAll xs
  | .tuple xs => plainAll xs
  | .dict _ => false
def plainAll : List PyData → Bool
  | [] => true
  | d :: ds => plainD d && plainAll ds
end
mutual
theorem eqv_iff : ∀ {d e : PyData}, plainD d = true → plainD e = true → (PyData.eqv d e = true ↔ d = e)
  | .none, e, _, h => by cases e <;> simp_all [PyData.eqv, plainD]
  | .bool _, e, h, _ => by simp [plainD] at h
  | .int _, e, _, h => by cases e <;> simp_all [PyData.eqv, plainD]
  | .str _, e, _, h => by cases e <;> simp_all [PyData.eqv, plainD]
  | .list xs, e, h1, h2 => by
    cases e with
    | list ys => rw [PyData.eqv, PyData.list.injEq]; exact eqv_iffAll (by simpa [plainD] using h1) (by simpa [plainD] using h2)
    | _ => simp [PyData.eqv]
  | .tuple xs, e, h1, h2 => by
    cases e with
    | tuple ys => rw [PyData.eqv, PyData.tuple.injEq]; exact eqv_iffAll (by simpa [plainD] using h1) (by simpa [plainD] using h2)
    | _ => simp [PyData.eqv]
  | .dict _, e, h, _ => by simp [plainD] at h
theorem eqv_iffAll : ∀ {ds es : List PyData}, plainAll ds = true → plainAll es = true → (PyData.eqvAll ds es = true ↔ ds = es)
  | [], [], _, _ => by simp [PyData.eqvAll]
  | [], e :: es, _, _ => by simp [PyData.eqvAll]
  | d :: ds, [], _, _ => by simp [PyData.eqvAll]
  | d :: ds, e :: es, h1, h2 => by
    simp only [plainAll, Bool.and_eq_true] at h1 h2
    rw [PyData.eqvAll, Bool.and_eq_true, eqv_iff h1.1 h2.1, eqv_iffAll h1.2 h2.2, List.cons.injEq]
end
end Pz
set_option maxRecDepth 100000
namespace HT
open PySem PySem.Spec PyProof.Rows L2
section
variable {prog : Program} {w : World} {A : Around} {E : Value → Shared → Prop} {s : Shared}
end
end HT
namespace L2
open PySem PySem.Spec PyProof.Rows
section
variable {X : Cx}
def tRevY (K : PySem.W.Frag) (te : TE) : TE := fun σ H Q => te σ H fun x H1 => (∃ a xs, x = .ref a ∧ SqL K H1 a xs ∧ ∀ p, H1 p = none → Q (.ref p) (upd H1 p (.lst xs.reverse))) ∨ (∃ a xs, x = .ref a ∧ SqT K H1 a xs ∧ ∀ p, H1 p = none → Q (.ref p) (upd H1 p (.tup xs.reverse)))
def rSortedSA (K : PySem.W.Frag) : List V → Hp → VK → Prop := fun vs H Q => ∃ (a : Addr) (xs : List Str), vs = [V.ref a] ∧ SqL K H a (xs.map V.str) ∧
  ∀ (ys : List Str) (p : Addr), ys.Perm xs → sortedS ys = true → H p = none → Q (.ref p) (upd H p (.lst (ys.map V.str)))
end
end L2
namespace Pz
open PySem PySem.Spec PyProof.Rows L2 TL
variable [PenC]
section
variable {X : Cx} {E : WXs} {Z0 : Zs} {e : Expr} {te : DE} {pos p : Pos} {x : Str} {K : Frag}
def wRevY (te : DE) : DE := fun Ed sl st Q => te Ed sl st fun s st => match vw st s with
  | some (.list ds) => Q (.d (.list ds.reverse)) st
  | some (.tuple ds) => Q (.d (.tuple ds.reverse)) st
  | _ => False
theorem wRevY_ap {te : DE} {Ed : DX} {sl : Sls} {st : Sto} {Q : DK} : wRevY te Ed sl st Q = (te Ed sl st fun s st => match vw st s with
  | some (.list ds) => Q (.d (.list ds.reverse)) st
  | some (.tuple ds) => Q (.d (.tuple ds.reverse)) st
  | _ => False) := rfl
def fSortedS : FA := fun ss st Q => match ss with
  | [s] => match vw st s with
    | some (.list ds) => ∃ zs, asStrs ds = some zs ∧ ∀ ys : List Str, ys.Perm zs → sortedS ys = true → Q (.d (.list (ys.map .str))) st
    | _ => False
  | _ => False
end
end Pz
set_option maxRecDepth 100000
namespace Pz
open PySem PySem.Spec PyProof.Rows L2 TL
variable [PenC]
section
variable {K : Frag}
def mStr2 (g : Str → Str → Str) : FM := fun s ss st Q => match ss with
  | [t] => match vw st s, vw st t with
    | some (.str a), some (.str b) => a.length ≤ 16777216 ∧ Q (.d (.str (g a b))) st
    | _, _ => False
  | _ => False
def mStrip : FM := fun s ss st Q => mStr2 Txt.stripChars s ss st Q
def mLstrip : FM := fun s ss st Q => mStr2 Txt.lstripChars s ss st Q
def mRstrip : FM := fun s ss st Q => mStr2 Txt.rstripChars s ss st Q
def mPart : FM := fun s ss st Q => match ss with
  | [t] => match vw st s, vw st t with
    | some (.str a), some (.str b) => b.length ≠ 0 ∧ a.length ≤ 16777216 ∧ Q (.d (.tuple [.str (Txt.partition a b).1, .str (Txt.partition a b).2.1, .str (Txt.partition a b).2.2])) st
    | _, _ => False
  | _ => False
theorem md_part : MetD K (fun x xs H Q => ∃ a b, x = .str a ∧ xs = [.str b] ∧ (b.length == 0) = false ∧ a.length ≤ sizeLine ∧ ∀ p, H p = none → Q (.ref p) (upd H p (.tup [.str (Txt.partition a b).1, .str (Txt.partition a b).2.1, .str (Txt.partition a b).2.2]))) mPart := by
  intro Z v s vs ss Qd Q ok rs ra w k
  unfold mPart at w
  split at w
  · split at w
    · rename_i a b e1 e2
      obtain rfl := rs.str e1
      have hv := rp_str ra e2
      exact ⟨a, b, rfl, hv, by simpa using w.1, w.2.1, k.newT ok (.cons (.str _) (.cons (.str _) (.cons (.str _) .nil))) w.2.2⟩
    · exact w.elim
  · exact w.elim
end
def subS (z y : Str) : Bool := !(Builtin.Str.occurrences y z 0 y.length 1).isEmpty
def oInT (x y : Sl) (st : Sto) (Q : DK) : Prop := match vw st x, vw st y with
  | some (.str z), some (.str y) => Q (.d (.bool (subS z y))) st
  | _, _ => False
end Pz
set_option maxRecDepth 100000
namespace Pz
open PySem PySem.Spec PyProof.Rows L2 TL
variable [PenC]
def itOk (d : PyData) : Prop := okR d = true ∨ d = .dict []
section
variable {X : Cx} {pins : List (Addr × Obj)} {σ : L2.St} {H : Hp} {s : Shared} {W : Addr → Prop}
end
def rShowX (K : Frag) : List V → Hp → VK → Prop := fun xs H Q => rShow K xs H Q ∨ ∃ (a : Addr) (ds : List PyData) (W : Addr → Prop), xs = [.ref a] ∧ Im K W H (.ref a) (.tuple ds) ∧ (∀ d ∈ ds, itOk d) ∧ (PyData.tuple ds).depth ≤ 60 ∧ (PyData.tuple ds).shown.length ≤ sizeLine ∧ Q (.str (PyData.tuple ds).shown) H
structure RepX (ds : List PyData) : Prop where
  ok : ∀ d ∈ ds, itOk d
  st : PyData.strOk (PyData.tuple ds).shown = true
  ln : (PyData.tuple ds).shown.length ≤ sizeLine
  dp : (PyData.tuple ds).depth ≤ 60
theorem RepX.sh {ds : List PyData} (h : RepX ds) : SeqAt.shaped (.str (PyData.tuple ds).shown) = true := sh_str h.st
def fRepX : FA := fun ss st Q => match ss with
  | [.d (.tuple ds)] => RepX ds ∧ Q (.d (.str (PyData.tuple ds).shown)) st
  | _ => False
end Pz
set_option maxRecDepth 100000
namespace Pz
open PySem PySem.Spec PyProof.Rows L2 TL
variable [PenC]
section
variable {X : Cx} {E : WXs} {Z0 : Zs} {K : Frag} {e : Expr} {te : DE} {pos : Pos}
def kdD (kvs : KD) : List (PyData × PyData) := kvs.map fun p => (keyD p.1, p.2)
def frzX (h : Nat) (x : PyData) : Option Sl → Option Sl
  | some (.o j) => if j = h then some (.d x) else some (.o j)
  | s => s
def wFrzX (n0 i : Nat) (u : DS) : DS := fun D sl st => match nthS sl i with
  | some (.o h) => match st[h]? with
    | some (.dK kvs) => n0 ≤ h ∧ (∀ c ∈ st, NoRef h c) ∧ u D (sl.map (frzX h (.dict (kdD kvs)))) (st.set h .dead)
    | _ => False
  | _ => u D sl st
theorem wFrzX_ap {n0 i : Nat} {u : DS} {nx bk ct : Sls → Sto → Prop} {rt : DK} {ex : DX} {sl : Sls} {st : Sto} : wFrzX n0 i u ⟨nx, rt, ex, bk, ct⟩ sl st = (match nthS sl i with
  | some (.o h) => match st[h]? with
    | some (.dK kvs) => n0 ≤ h ∧ (∀ c ∈ st, NoRef h c) ∧ u ⟨nx, rt, ex, bk, ct⟩ (sl.map (frzX h (.dict (kdD kvs)))) (st.set h .dead)
    | _ => False
  | _ => u ⟨nx, rt, ex, bk, ct⟩ sl st) := rfl
def unKE : List (PyData × PyData) → Option KD
  | [] => some []
  | (k, d) :: r => match keyOf k, unKE r with
    | some k, some r => some ((k, d) :: r)
    | _, _ => none
def unKD : List (PyData × PyData) → Option KD
  | (.none, .bool false) :: r => unKE r
  | l => unKE l
theorem keyOf_keyD (k : Key) : keyOf (keyD k) = some k := by cases k <;> rfl
theorem unKE_kdD : ∀ kvs : KD, unKE (kdD kvs) = some kvs
  | [] => rfl
  | (k, d) :: r => by
    show unKE ((keyD k, d) :: kdD r) = _
    rw [unKE, keyOf_keyD, unKE_kdD r]
theorem unKD_kdD : ∀ kvs : KD, unKD (kdD kvs) = some kvs
  | [] => rfl
  | (.inl i, d) :: r => by
    show unKE ((PyData.int i, d) :: kdD r) = _
    exact unKE_kdD ((.inl i, d) :: r)
  | (.inr i, d) :: r => by
    show unKE ((PyData.str i, d) :: kdD r) = _
    exact unKE_kdD ((.inr i, d) :: r)
theorem unKD_loc (kvs : KD) : unKD (mkK :: kdD kvs) = some kvs := unKE_kdD kvs
def oDGetX (s t : Sl) (st : Sto) (Q : DK) : Prop := match s, keyS st t with
  | .d (.dict l), some k => match unKD l with
    | some kvs => ∃ d, valD kvs k = some d ∧ Q (.d d) st
    | none => False
  | _, _ => False
def wSwp (te to ti to2 ti2 : DE) : DS := fun D sl st => te D.ex sl st fun v st => match v with
  | .d (.tuple [y, z]) => to D.ex sl st fun o st => ti D.ex sl st fun i st => match o, i with
    | .o h, .d (.int j) => match st[h]? with
      | some (.lst ds) => match ixN ds.length j with
        | some n => to2 D.ex sl (st.set h (.lst (ds.set n y))) fun o2 st => ti2 D.ex sl st fun i2 st => match o2, i2 with
          | .o h2, .d (.int j2) => match st[h2]? with
            | some (.lst ds2) => match ixN ds2.length j2 with
              | some n2 => D.nx sl (st.set h2 (.lst (ds2.set n2 z)))
              | none => False
            | _ => False
          | _, _ => False
        | none => False
      | _ => False
    | _, _ => False
  | _ => False
theorem wSwp_ap {te to ti to2 ti2 : DE} {nx bk ct : Sls → Sto → Prop} {rt : DK} {ex : DX} {sl : Sls} {st : Sto} : wSwp te to ti to2 ti2 ⟨nx, rt, ex, bk, ct⟩ sl st = (te ex sl st fun v st => match v with
  | .d (.tuple [y, z]) => to ex sl st fun o st => ti ex sl st fun i st => match o, i with
    | .o h, .d (.int j) => match st[h]? with
      | some (.lst ds) => match ixN ds.length j with
        | some n => to2 ex sl (st.set h (.lst (ds.set n y))) fun o2 st => ti2 ex sl st fun i2 st => match o2, i2 with
          | .o h2, .d (.int j2) => match st[h2]? with
            | some (.lst ds2) => match ixN ds2.length j2 with
              | some n2 => nx sl (st.set h2 (.lst (ds2.set n2 z)))
              | none => False
            | _ => False
          | _, _ => False
        | none => False
      | _ => False
    | _, _ => False
  | _ => False) := rfl
end
end Pz
set_option maxRecDepth 100000
set_option maxHeartbeats 2000000
namespace PySem
namespace Xc
open PySem.W PySem.Calls PyProof.Rows PySem.HandSPX
def refsT (bmB : List Value) : List Value → Bool
  | .ref _ :: r => refsT bmB r
  | l => l == bmB
theorem refsT_cases {bmB : List Value} (l : List Value) (e : refsT bmB l = true) : (∃ c r, l = .ref c :: r ∧ refsT bmB r = true) ∨ l = bmB := by
  unfold refsT at e
  split at e
  · rename_i c r
    exact .inl ⟨c, r, rfl, e⟩
  · exact .inr (beq_iff_eq.mp e)
theorem refsT_pass {B sa ow : String} {bmB : List Value} (F : StoreFacts B bmB sa ow) (self : Value) : ∀ l : List Value, refsT bmB l = true → refuseLoop self "__setattr__" l = pure () := by
  intro l
  induction l with
  | nil =>
    intro e
    rcases refsT_cases _ e with ⟨c, r, q, _⟩ | q
    · cases q
    · rw [q]; exact F.passes self
  | cons a r ih =>
    intro e
    rcases refsT_cases (a :: r) e with ⟨c, r', q, h⟩ | q
    · obtain ⟨rfl, rfl⟩ := List.cons.inj q
      rw [refuseLoop_ref]; exact ih h
    · rw [q]; exact F.passes self
theorem refsT_contains {bmB : List Value} (X : String) : ∀ l : List Value, refsT bmB l = true → l.contains (.type X) = bmB.contains (.type X) := by
  intro l
  induction l with
  | nil =>
    intro e
    rcases refsT_cases _ e with ⟨c, r, q, _⟩ | q
    · cases q
    · rw [q]
  | cons a r ih =>
    intro e
    rcases refsT_cases (a :: r) e with ⟨c, r', q, h⟩ | q
    · obtain ⟨rfl, rfl⟩ := List.cons.inj q
      rw [List.contains_cons, ih h]; rfl
    · rw [q]
def iA (f : Str) (p1 p2 : Pos) : Arguments := { posonlyargs := [], args := [{ arg := "self", annotation := none, pos := p1 }, { arg := f, annotation := none, pos := p2 }], vararg := none, kwonlyargs := [], kw_defaults := [], kwarg := none, defaults := [] }
def iB (f : Str) (q1 q2 q3 q4 : Pos) : List Stmt := [.Assign [.Attribute (.Name "self" q1) f q2] (.Name f q3) q4]
def iS (f : Str) : Scope := { kind := .function, names := [(PySem.Str.ofString "self", .local), (f, .local)], isGenerator := false, isCoroutine := false, more := [] }
structure Txt (B newId initId : String) (bmB : List Value) (f qn : Str) (K : Frag) (C fI : Addr) : Prop where
  cls : ∃ nm q N bs bm sn sub ab col dd k0 k1 k2 k3 k5, K.lookup C = some (excClassObj nm q C N bs bm true sn sub ab col dd k0 k1 k2 k3 k5 newId) ∧ refsT bmB bm = true
  sa : findIn K (.ref C) "__setattr__" = some (some (.builtin "object.__setattr__"))
  noN : findIn K (.ref C) f = some none
  iC : findIn K (.ref C) "__init__" = some (some (.ref fI))
  tC : typeIn K (.ref fI) = some (.type "function")
  kC : keepIn K (.ref C) = true
  exC : subIn K (.ref C) (.type "BaseException") = some true
  tyC : typeIn K (.ref C) = some (.type "type")
  fn : ∃ (oc : Value) (od : Option Addr) (doc pm : Value) (an : Option Addr) (cdv ct : Value) (osl : Array (Option Value)) (p1 p2 q1 q2 q3 q4 : Pos),
    K.lookup fI = some ⟨oc, od, .func (fnOf "__init__" qn (iA f p1 p2) (iB f q1 q2 q3 q4) (iS f) .none .none doc pm an cdv ct), osl⟩ ∧ codeIn K cdv qn = true
section
variable {prog : Program} {w : World} {A : Around} {E : Value → Shared → Prop} {R : Result → Shared → Prop} {hp : Heap} {g : Array GenState} {d : Drawn} {t : Nat} {os : OsState} {B newId initId ow : String} {bmB : List Value}
theorem osa {K : W.Frag} {name : Str} {tk : Tok} {v : Value} {x C : Addr} {fv : Array Value} {cd : ClassData} (SF : StoreFacts B bmB "object.__setattr__" ow) (hobj : bmB.contains (.type "object") = true)
    (X : K.In hp) (hx : hp.get? x = some { cls := .ref C, data := .fields fv }) (hcd : W.clsIn K C = some cd) (hm : refsT bmB cd.mro = true) (hne : cd.mro.isEmpty = false) (hh : cd.hasDict = true) (ha : W.findIn K (.ref C) name = some none)
    (hq : ∀ h' tk' dx, (∀ b o, b ≠ x → hp.get? b = some o → h'.get? b = some o) → hp.objs.size ≤ dx → dx ≠ x → h'.get? x = some { cls := .ref C, dict := some dx, data := .fields fv } →
      h'.Ns1 dx (fun y => if y = name then some v else none) → R (.ok (.ret .none)) ⟨h', g, d, tk', os⟩) :
    codeAny (model prog w) A (.call (.builtin "object.__setattr__") ⟨[.ref x, .str name tk, v], []⟩) R ⟨hp, g, d, t, os⟩ := by
  have I : W.InstAt hp x { cls := .ref C, data := .fields fv } C none := ⟨hx, rfl, rfl, trivial⟩
  have S0 := F.store_object
  have hob : cd.mro.contains (.type "object") = true := (refsT_contains "object" _ hm).trans hobj
  have hxs : x ≠ hp.objs.size := Nat.ne_of_lt (Heap.lt_size hx)
  have sub : W.Looks (model prog w) hp (isInstance (.ref x) (.type "object")) true := I.type.andThen (W.looks_mroIn X (by unfold W.mroIn; rw [hcd, Option.bind_some, if_neg (by rw [hne]; decide), hob]))
  refine codeAny_call_builtin S0.slot.plain S0.entry (@W.check_slot (model prog w) _ _ ⟨hp, g, d, t, os⟩ "object.__setattr__" "object" "__setattr__" (.ref x) [.str name tk, v] [] _ S0.kind S0.split sub (S0.args (.ref x) (.str name tk) v) ?_)
  have hmr : W.Looks (model prog w) hp (mroOf (.ref C)) cd.mro := (W.looks_clsIn X hcd).andThen .now
  have L3 : W.Looks (model prog w) hp (Builtin.ObjectAttr.storeTaker? none) none := .now
  have hcls : W.Looks (model prog w) hp (classData C) cd := W.looks_clsIn X hcd
  rw [W.osa_eq, refuse_eq]
  refine wpAny_bind (wpAny_bind (I.type.at (wpAny_bind (hmr.at ?_))))
  rw [refsT_pass SF _ _ hm]
  refine wpAny_pure (wpAny_bind (I.type.at (wpAny_bind ((W.looks_findIn X ha).at (wpAny_bind (L3.at ?_))))))
  show wpAny _ _ (Builtin.ObjectAttr.storeInOwnDict (.ref x) (.ref C) (.str name tk) name v false) _ _ _
  obtain ⟨nm, bs, mro, ns, qn, hd, sn, sb, ab, col, del⟩ := cd
  dsimp only at hh
  subst hh
  unfold Builtin.ObjectAttr.storeInOwnDict Builtin.ObjectAttr.ownDictForStores
  repeat (first | with_reducible refine store_in_new ?_ ?_ | with_reducible refine wpAny_loadPart_at hx ?_ | with_reducible refine hcls.at ?_ | wp_step)
  · exact ⟨_, #[], _, (Heap.get?_update_ne _ _ _ _ hxs.symm).trans (Heap.get?_push_at rfl rfl), rfl, fun e he => absurd he (by simp), fun _ => rfl⟩
  · intro h' tk' hn' hs
    have hx₁ : (hp.push { cls := .type "dict", data := .dict #[] }).get? x = some { cls := .ref C, data := .fields fv } := Heap.get?_push_of_some _ hx
    refine hq h' tk' hp.objs.size (fun b o hb ho => ?_) (Nat.le_refl _) hxs.symm ?_ hn'
    · exact (hs.2 b (Nat.ne_of_lt (Heap.lt_size ho))).trans ((Heap.get?_update_ne _ _ _ _ hb).trans (Heap.get?_push_of_some _ ho))
    · exact (hs.2 x hxs).trans (Heap.get?_update_self _ hx₁ rfl)
end
theorem one_size (v : Value) : [v].length ≤ sizeLine := by
  rw [sizeLine_eq]
  exact (by decide : 1 ≤ 16777216)
theorem ldC {M : Model} {s : Shared} {name : Str} {scope : Scope} {L a : Addr} {cd : Value} {m : Str → Option Value} {x : Str} {pos : Pos} {v : Value} {Q : Value → Shared → Prop} {A : Around} {E : Value → Shared → Prop} (hn : s.heap.Ns L m) (hv : m x = some v) (h : Q v s)
    (hk : scope.kind = .function := by rfl) (hl : (envOfC name scope L a cd).kindOf x = some .local := by rfl) (hd : (x == ("__debug__" : Str)) = false := by decide) :
    wpAny M A (eval (.Name x pos) (envOfC name scope L a cd)) Q E s := wpAny_Name (wpAny_loadName_local hk hl hn hv h) hd
structure InitEnd (h h' : Heap) (x C dx t1 : Addr) (f : Str) (v : Value) : Prop where
  keep : ∀ b o, b ≠ x → h.get? b = some o → h'.get? b = some o
  obj : h'.get? x = some { cls := .ref C, dict := some dx, data := .fields #[.ref t1, .none, .none, .none, .bool false, .none] }
  dbig : h.objs.size ≤ dx
  dne : dx ≠ x
  ns : h'.Ns1 dx (fun y => if y = f then some v else none)
structure OwnMade (h h' : Heap) (e C d : Addr) (f : Str) (v : Value) : Prop where
  keep : ∀ b o, h.get? b = some o → h'.get? b = some o
  new : h.objs.size ≤ e
  obj : ∃ oe vs, h'.get? e = some oe ∧ oe.cls = .ref C ∧ oe.dict = some d ∧ oe.data = .fields vs ∧ vs[1]? = some .none
  dbig : h.objs.size ≤ d
  dne : d ≠ e
  ns : h'.Ns1 d (fun y => if y = f then some v else none)
def InitRun (B newId initId : String) (bmB : List Value) (f qn : Str) (K : Frag) (C fI : Addr) : Prop := ∀ (prog : Program) (w : World) (A : Around) (R : Result → Shared → Prop) (s : Shared) (x t0 : Addr) (v : Value), Txt B newId initId bmB f qn K C fI → K.In s.heap → s.heap.NoLimit → s.heap.get? x = some (excO C t0) → A.depth < recursionLimit →
    (∀ h' tk dx, InitEnd s.heap h' x C dx t0 f v → R (.ok (.ret .none)) { s with heap := h', toks := tk }) → codeAny (model prog w) A (.call (.ref fI) ⟨[.ref x, v], []⟩) R s
section
variable {K : Frag} {C fI : Addr} {B newId initId ow : String} {bmB : List Value} {qn : Str}
theorem init_length (SF : StoreFacts B bmB "object.__setattr__" ow) (hobj : bmB.contains (.type "object") = true) : InitRun B newId initId bmB "length" qn K C fI := by
  intro prog w A R s x t0 v T X hlim hx hroom hq
  obtain ⟨oc, od, doc, pm, an, cdv, ct, osl, p1, p2, q1, q2, q3, q4, ho, hcd⟩ := T.fn
  obtain ⟨nm, q, N, bs, bm, sn, sub, ab, col, dd, k0, k1, k2, k3, k5, hC, hbm⟩ := T.cls
  have hcl : clsIn K C = some { name := nm, bases := bs, mro := .ref C :: bm, ns := N, qualname := q, hasDict := true, slotNames := sn, subclasses := sub, abstract := ab, collection := col, hasDel := false } := by unfold clsIn; rw [hC] <;> rfl
  refine Att.call_fn (binds := [("self", .ref x), ("length", v)]) X hlim ho hcd hroom (BindsTo.of_eq (by first | rfl | with_unfolding_all rfl)) (by first | rfl | decide | with_unfolding_all rfl) (fun s₁ IC => ?_) rfl rfl rfl
  obtain ⟨h₁, tk₁, rfl⟩ := IC.toInCall.same
  have k : ∀ b o, s.heap.get? b = some o → h₁.get? b = some o := IC.toInCall.keep
  have hn := IC.toInCall.ns
  have hxL : s.heap.objs.size ≠ x := Nat.ne_of_gt (Heap.lt_size hx)
  have X₁ : K.In h₁ := X.keeps k
  have hx₁ := k _ _ hx
  show wpAny _ _ (execs _ _) _ _ _
  refine wpAny_execs_cons (plainObj_wpAny_Assign_Attribute ?_)
  refine ldC (v := v) hn (by first | rfl | with_unfolding_all rfl | kernel_rfl) (ldC (v := .ref x) hn (by first | rfl | with_unfolding_all rfl | kernel_rfl) ?_)
  refine set_plain X₁ (ox := excO C t0) (od := none) ⟨hx₁, rfl, rfl, trivial⟩ T.sa ?_
  refine osa SF hobj X₁ hx₁ hcl (show refsT bmB (.ref C :: bm) = true from hbm) rfl rfl T.noN (fun h₃ tk₃ dx k₃ dn dne hx₃ hn₃ => ?_)
  show wpAny _ _ (execs _ _) _ _ _
  have z : s.heap.objs.size < h₁.objs.size := hn.lt
  exact wpAny_execs_nil (hq h₃ tk₃ dx ⟨fun b o hb e => k₃ b o hb (k b o e), hx₃, Nat.le_of_lt (Nat.lt_of_lt_of_le z dn), dne, hn₃⟩)
theorem init_at (SF : StoreFacts B bmB "object.__setattr__" ow) (hobj : bmB.contains (.type "object") = true) : InitRun B newId initId bmB "at" qn K C fI := by
  intro prog w A R s x t0 v T X hlim hx hroom hq
  obtain ⟨oc, od, doc, pm, an, cdv, ct, osl, p1, p2, q1, q2, q3, q4, ho, hcd⟩ := T.fn
  obtain ⟨nm, q, N, bs, bm, sn, sub, ab, col, dd, k0, k1, k2, k3, k5, hC, hbm⟩ := T.cls
  have hcl : clsIn K C = some { name := nm, bases := bs, mro := .ref C :: bm, ns := N, qualname := q, hasDict := true, slotNames := sn, subclasses := sub, abstract := ab, collection := col, hasDel := false } := by unfold clsIn; rw [hC] <;> rfl
  refine Att.call_fn (binds := [("self", .ref x), ("at", v)]) X hlim ho hcd hroom (BindsTo.of_eq (by first | rfl | with_unfolding_all rfl)) (by first | rfl | decide | with_unfolding_all rfl) (fun s₁ IC => ?_) rfl rfl rfl
  obtain ⟨h₁, tk₁, rfl⟩ := IC.toInCall.same
  have k : ∀ b o, s.heap.get? b = some o → h₁.get? b = some o := IC.toInCall.keep
  have hn := IC.toInCall.ns
  have hxL : s.heap.objs.size ≠ x := Nat.ne_of_gt (Heap.lt_size hx)
  have X₁ : K.In h₁ := X.keeps k
  have hx₁ := k _ _ hx
  show wpAny _ _ (execs _ _) _ _ _
  refine wpAny_execs_cons (plainObj_wpAny_Assign_Attribute ?_)
  refine ldC (v := v) hn (by first | rfl | with_unfolding_all rfl | kernel_rfl) (ldC (v := .ref x) hn (by first | rfl | with_unfolding_all rfl | kernel_rfl) ?_)
  refine set_plain X₁ (ox := excO C t0) (od := none) ⟨hx₁, rfl, rfl, trivial⟩ T.sa ?_
  refine osa SF hobj X₁ hx₁ hcl (show refsT bmB (.ref C :: bm) = true from hbm) rfl rfl T.noN (fun h₃ tk₃ dx k₃ dn dne hx₃ hn₃ => ?_)
  show wpAny _ _ (execs _ _) _ _ _
  have z : s.heap.objs.size < h₁.objs.size := hn.lt
  exact wpAny_execs_nil (hq h₃ tk₃ dx ⟨fun b o hb e => k₃ b o hb (k b o e), hx₃, Nat.le_of_lt (Nat.lt_of_lt_of_le z dn), dne, hn₃⟩)
end
section
variable {prog : Program} {w : World} {A : Around} {E : Value → Shared → Prop} {R : Result → Shared → Prop} {s : Shared} {K : Frag} {C fI : Addr} {B newId initId : String} {bmB : List Value} {f qn : Str}
theorem made (F : ExcBaseFacts B newId initId bmB) (IR : InitRun B newId initId bmB f qn K C fI) (T : Txt B newId initId bmB f qn K C fI) {v : Value} (X : K.In s.heap) (hlim : s.heap.NoLimit) (hroom : A.depth + 1 < recursionLimit)
    (hq : ∀ h' tk e d, OwnMade s.heap h' e C d f v → R (.ok (.ret (.ref e))) { s with heap := h', toks := tk }) :
    codeAny (model prog w) A (.call (.ref C) ⟨[v], []⟩) R s := by
  obtain ⟨nm, q, N, bs, bm, sn, sub, ab, col, dd, k0, k1, k2, k3, k5, hC, hbm⟩ := T.cls
  obtain ⟨hp, g, dr, tk, os⟩ := s
  have k : ∀ b o, hp.get? b = some o → ((hp.push (kdv_tup [v])).push (excO C hp.objs.size)).get? b = some o := fun b o e => Heap.get?_push_of_some _ (Heap.get?_push_of_some _ e)
  have hget : ((hp.push (kdv_tup [v])).push (excO C hp.objs.size)).get? (hp.objs.size + 1) = some (excO C hp.objs.size) := by heap_get
  refine call_own F (fun X => refsT_contains X bm hbm) (X _ _ hC) (looks_findIn X T.iC) (fun self => bind_fn X self T.tC) (one_size v) ?_
  refine IR _ _ _ _ ⟨(hp.push (kdv_tup [v])).push (excO C hp.objs.size), g, dr, tk, os⟩ _ _ _ T (X.keeps k) (hlim.keeps k) hget ?_ fun h' tk' dx ⟨k', hx, dn, dne, hns⟩ => ?_
  · show A.depth + 1 < recursionLimit
    exact hroom
  · have old : ∀ b o, hp.get? b = some o → h'.get? b = some o := fun b o e => k' b o (Nat.ne_of_lt (Nat.lt_succ_of_lt (Heap.lt_size e))) (k b o e)
    have z : hp.objs.size + 1 + 1 ≤ dx := by
      first
        | (simpa only [Heap.size_push] using dn)
        | exact dn
        | (have q := dn; rw [Heap.size_push, Heap.size_push] at q; exact q)
    exact ⟨rfl, hq h' tk' (hp.objs.size + 1) dx ⟨old, Nat.le_succ _, ⟨_, _, hx, rfl, rfl, rfl, rfl⟩, Nat.le_trans (Nat.le_trans (Nat.le_succ _) (Nat.le_succ _)) z, dne, hns⟩⟩
end
end Xc
end PySem
namespace L2
open PySem PySem.Spec PyProof.Rows
theorem relO_one {f : Str} {v : V} {v' : Value} (r : RelV v v') (g : Str) : RelO (List.lookup g [(f, v)]) (if g = f then some v' else none) := by
  by_cases hw : g = f
  · subst hw
    rw [if_pos rfl]
    have q : List.lookup g [(g, v)] = some v := by simp [List.lookup]
    rw [q]
    exact r
  · rw [if_neg hw]
    have qw : (g == f) = false := by simpa using hw
    have q2 : List.lookup g [(f, v)] = none := by simp [List.lookup, qw]
    rw [q2]
    trivial
section
variable {X : Cx} {C fI : Addr} {B newId initId : String} {bmB : List Value} {f qn x : Str}
def tMk1 (f : Str) (C : Addr) (ta : TA) : St → Hp → XK → Prop := fun σ H Q => ta σ H fun vs H1 => ∃ v, vs = [v] ∧ ∀ d, H1 d = none → Q (.ref C) (some d) (upd H1 d (.xd [(f, v)]))
theorem pmk1 {a : Expr} {ta : TA} {p pos : Pos} {k : Nat} (F : ExcBaseFacts B newId initId bmB) (IR : PySem.Xc.InitRun B newId initId bmB f qn X.K C fI) (T : PySem.Xc.Txt B newId initId bmB f qn X.K C fI) (gC : X.mg x = some (.ref C)) (hr : Room k X.A) (ha : PA X [a] ta) (hg : Gl X x)
    (hdb : (x == ("__debug__" : Str)) = false := by decide) (he : starEach (a :: []) X.env = (false, eval a X.env) :: starEach [] X.env := by rfl) (hpl : (backTo pos (starEach [] X.env)).any (·.1) = false := by rfl) :
    PMk X (.Call (.Name x p) [a] [] pos) (tMk1 f C ta) := by
  intro pins s σ H Q I h
  refine wpAny_Call_Name_kw (ld_glob I hg gC ?_ hdb)
  refine PySem.W.callWith_K (h₀ := X.base) I.ok.mod.kin T.kC (thn (ha.run pos pins s σ H _ I h) fun us s1 hh => ?_) he hpl
  obtain ⟨vs, H1, I1, r1, v, ev, q1⟩ := hh
  subst ev
  refine ⟨I1.kIn, ?_⟩
  cases r1 with
  | cons rv rn =>
    rename_i v' us'
    cases rn
    show wpAny _ _ (call (.ref C) [v']) _ _ _
    have hlim := I1.nolimit
    obtain ⟨hp, g, dr, tk, os⟩ := s1
    refine wpAny_call (PySem.Xc.made F IR T I1.kIn hlim (by have := hr.dp; omega) fun h' tk' e d M => ?_)
    show MkP X pins σ Q (.ref e) ⟨h', g, dr, tk', os⟩
    obtain ⟨oe, fv, hoe, hc, hd, hdat, h1⟩ := M.obj
    have hns := M.ns
    obtain ⟨G', g1, g2⟩ := restrict h' fun b => decide (b ≠ e)
    have gk : ∀ b, b ≠ e → G'.get? b = h'.get? b := fun b hb => g1 b (decide_eq_true hb)
    have ge : G'.get? e = none := g2 e (by simp)
    have old : ∀ b o, hp.get? b = some o → G'.get? b = some o := fun b o q => (gk b (Nat.ne_of_lt (Nat.lt_of_lt_of_le (Heap.lt_size q) M.new))).trans (M.keep b o q)
    have ob : ObjOk X.prog X.w (upd H1 d (.xd [(f, v)])) G' d (.xd [(f, v)]) :=
      ⟨_, hns.at (fun o q => (gk d M.dne).trans q), fun g => relO_one rv g⟩
    have J : Inv X pins σ (upd H1 d (.xd [(f, v)])) ⟨G', g, dr, tk', os⟩ := I1.laid (t' := tk') old M.dbig ob
    refine ⟨e, oe, fv, ⟨G', g, dr, tk', os⟩, _, .ref C, some d, rfl, J, fun b o q => ?_, ge, hoe, ⟨hc, hd⟩, hdat, h1, ?_, rfl, I1.bare, raises_own T.exC T.tyC, q1 d (I1.hok.fresh M.dbig)⟩
    · by_cases hb : b = e
      · have q' : G'.get? b = some o := q
        rw [hb, ge] at q'; cases q'
      · exact (gk b hb).symm.trans q
    · rw [upd_ne (Ne.symm M.dne)]
      exact I1.hok.fresh M.new
end
end L2
set_option maxRecDepth 100000
namespace PySem.W
open PySem PySem.Spec PySem.Calls PyProof.Rows
variable {M : Model} {K : Frag}
end PySem.W
namespace L2
open PySem PySem.Spec PyProof.Rows
abbrev ExO (c : Value) (d : Option Addr) (a : Addr) : HO := Pz.ExH c d a
section
variable {X : Cx} {pins : List (Addr × Obj)} {σ : St} {H : Hp} {s : Shared}
theorem Inv.adopt {a : Addr} {oe : Obj} {cls : Value} {d : Option Addr} (I : Inv X pins σ H s) (he : s.heap.get? a = some oe) (hz : Zc cls d oe) (hd : ∃ vs, oe.data = .fields vs) (na : H a = none) (n0 : X.s_0.heap.get? a = none) (nL : a ≠ X.env.locals) (np : ∀ p ∈ X.pn ++ pins, p.1 ≠ a) :
    Inv X pins σ (upd H a (ExO cls d a)) s := by
  have up : ∀ b u, H b = some u → upd H a (ExO cls d a) b = some u := fun b u e => by
    rw [upd_ne (fun z => by rw [z, na] at e; cases e)]; exact e
  refine ⟨I.ok, I.os, I.bare, ⟨I.base.keep, I.base.slot, fun b o e n hx => ?_, I.base.there, fun b xs e => up _ _ (I.base.tups b xs e), fun b o xs e => up _ _ (I.base.frzs b o xs e), fun b ps e => ?_⟩, I.loc, I.cell, ?_, fun x c e => ?_, fun p hp => ?_, fun b u e => ?_, I.len⟩
  · rw [upd_ne (fun z => by rw [z, n0] at e; cases e)]
    exact I.base.free b o e n hx
  · obtain ⟨m, z⟩ := I.base.tbls b ps e
    exact ⟨m, up _ _ z⟩
  · rw [upd_ne (Ne.symm nL)]
    exact I.free
  · rw [upd_ne (fun z => ?_)]
    · exact I.freeC x c e
    · subst z
      obtain ⟨v, o, ho, hdd⟩ := I.cell x c e
      obtain ⟨vs, hd⟩ := hd
      rw [he] at ho; cases ho
      rw [hd] at hdd; cases hdd
  · obtain ⟨e, n, ne, nf, dd⟩ := I.pin p hp
    exact ⟨e, by rw [upd_ne (np p hp)]; exact n, ne, nf, dd⟩
  · by_cases hb : b = a
    · subst hb
      rw [upd_same] at e
      cases e
      obtain ⟨vs, hd⟩ := hd
      exact ⟨⟨oe, vs, he, hz, hd⟩, ⟨oe, he⟩, fun h1 h2 ⟨o1, vs1, e1, z1, d1⟩ k => ⟨o1, vs1, k _ e1, z1, d1⟩⟩
    · rw [upd_ne hb] at e
      exact (I.hok b u e).stay (fun c w _ q => q) (fun c q => up _ _ q) fun c xs q => up _ _ q
inductive NmL (X : Cx) : List Expr → List Value → Prop
  | nil : NmL X [] []
  | cons {x : Str} {c : Value} {p : Pos} {es : List Expr} {cs : List Value} (hc : Names X x c) (r : NmL X es cs) (hs : starEach (.Name x p :: es) X.env = (false, eval (.Name x p) X.env) :: starEach es X.env := by rfl) : NmL X (.Name x p :: es) (c :: cs)
def ClTest (X : Cx) (te : Expr) (cs : List Value) : Prop := ∀ {a : Addr} {oe : Obj} {pn pins : List (Addr × Obj)} {σ : St} {H : Hp} {s : Shared}, Inv (X.suite a ((a, oe) :: pn)) pins σ H s → ∀ {Q : Value → Shared → Prop} {E : Value → Shared → Prop},
    (∀ (cv : Value) (s' : Shared), (∀ b o, s.heap.get? b = some o → s'.heap.get? b = some o) → s'.os = s.os → AllBare s'.gens → (∀ (M : Model) (cls : Value), PySem.W.Looks M s'.heap (typeOf (.ref a)) cls → ∀ b, PySem.W.exmAny X.K cls cs = some b → PySem.W.Looks M s'.heap (excMatches (.ref a) cv) b) → Q cv s') →
    wpAny (model X.prog X.w) (X.A.mark (some (.ref a))) (eval te X.env) Q E s
end
def wKeep (K : PySem.W.Frag) (cs : List Value) (i j : Nat) (Wout : WX) (D : Ends) : WX := fun cls d σ H =>
  ∃ b, PySem.W.exmAny K cls cs = some b ∧ (b = true → ∀ a, H a = none → D.nx (((σ.set i (some (.ref a))).set j (some (.ref a))).set i none) (upd H a (ExO cls d a))) ∧ (b = false → Wout cls d σ H)
section
variable {X : Cx} {n : Str} {te : Expr} {cs : List Value} {i j : Nat} {body : List Stmt} {b₀ : Stmt} {pos pos' : Pos} {tb : WX → TS} {Wout : WX}
end
end L2
set_option maxRecDepth 100000
namespace L2
open PySem PySem.Spec PyProof.Rows
section
variable {X : Cx} {CX : CXT} {k : Nat} {f : Addr} {fd : FuncData} {ps : List Str} {sp : Sp} {E : St → XK} {x : Str} {p pos : Pos} {e : Expr} {es : List Expr} {t : TA}
theorem runGS {pins : List (Addr × Obj)} {σ : St} {H : Hp} {s : Shared} {Q : VK} {us : List Value} {kw : List (Str × Value)} {vs : List V} {ws : List Value} (F : Pz.FnG X.prog X.w X.K X.mg X.base CX k f fd ps sp) (hg : X.A.guards = some []) (hr : Room k X.A) (hb : BindsTo s fd ⟨us, kw⟩ (ps.zip ws)) (hx : PassesAt CX X σ (E σ))
    (I : Inv X pins σ H s) (r : Vals vs ws) (h : sp vs H Q (E σ)) : wpAny (model X.prog X.w) X.A (call (.ref f) us kw) (EP X pins σ Q) X.xe s := by
  apply wpAny_call
  refine codeAny_mono (F.go X.A hg hr X.stack s H I.env0 ⟨us, kw⟩ ws hb vs Q (E σ) r h) ?_
  rintro (er | fl) s' q
  · exact hx pins H s er s' I q
  · rcases fl with _ | _ | _ | u
    · exact q.elim
    · exact q.elim
    · exact q.elim
    · exact I.after q
theorem pe_callGS (F : Pz.FnG X.prog X.w X.K X.mg X.base CX k f fd ps sp) (hA : X.A.guards = some []) (hr : Room k X.A) (hg : Gl X x) (hm : X.mg x = some (.ref f)) (hk : PySem.W.keepIn X.K (.ref f) = true) (hb : Binds X.K fd ps []) (hx : ∀ σ, PassesAt CX X σ (E σ))
    (ha : PA X (e :: es) t) (hdb : (x == ("__debug__" : Str)) = false := by decide) (he : starEach (e :: es) X.env = (false, eval e X.env) :: starEach es X.env := by rfl) (hpl : (backTo pos (starEach es X.env)).any (·.1) = false := by rfl) :
    PE X (.Call (.Name x p) (e :: es) [] pos) (tCallS sp E t) := by
  constructor
  intro pins s σ H Q I h
  refine wpAny_Call_Name_kw (ld_glob I hg hm (PySem.W.callWith_K (h₀ := X.base) I.ok.mod.kin hk (thn (ha.run pos pins s σ H _ I h) ?_) he hpl) hdb)
  rintro us s1 ⟨vs, H1, I1, r, q⟩
  have b := hb s1 us I1.kIn (by rw [List.append_nil, ← r.length]; exact F.len _ _ _ _ q)
  rw [List.append_nil] at b
  exact ⟨I1.kIn, runGS F hA hr b (hx σ) I1 r q⟩
variable {kws : List Keyword} {tk : TA} {n : Nat} {ks : List Str} {g : ∀ {α : Type}, List α → List α → List α}
def tCallWS (n m : Nat) (sp : Sp) (g : ∀ {α : Type}, List α → List α → List α) (E : St → XK) (t tk : TA) : TE := fun σ H Q => t σ H fun vs H1 => tk σ H1 fun zs H2 => vs.length = n ∧ zs.length = m ∧ sp (g vs zs) H2 Q (E σ)
end
def ExAt (H : Hp) (a C : Addr) (d : Option Addr) : Prop := H a = some (ExO (.ref C) d a) ∧ ∀ dx, d = some dx → ∃ fs, H dx = some (.xd fs)
theorem ExAt.inst {X : Cx} {pins : List (Addr × Obj)} {σ : St} {H : Hp} {s : Shared} {a C : Addr} {d : Option Addr} (I : Inv X pins σ H s) (h : ExAt H a C d) : ∃ ox od, PySem.W.InstAt s.heap a ox C od ∧ (∀ dx, d = some dx → ∃ ob, od = some ob ∧ s.heap.get? dx = some ob) := by
  obtain ⟨⟨oe, vs, he, hz, hd⟩, _⟩ := (show ObjOk X.prog X.w H s.heap a (ExO (.ref C) d a) from I.hok a _ h.1)
  have hn : PySem.W.notCls oe = true := by unfold PySem.W.notCls; rw [hd] <;> rfl
  cases d with
  | none => exact ⟨oe, none, ⟨he, hz.1, hn, by rw [hz.2]; trivial⟩, fun dx e => by cases e⟩
  | some dx =>
    obtain ⟨fs, hf⟩ := h.2 dx rfl
    obtain ⟨ob, ho⟩ := objOk_get (I.hok dx _ hf)
    exact ⟨oe, some ob, ⟨he, hz.1, hn, by rw [hz.2]; exact ho⟩, fun dx' e => by cases e; exact ⟨ob, rfl, ho⟩⟩
def rIsE (K : PySem.W.Frag) : List V → Hp → VK → Prop := fun xs H Q => ∃ (a C : Addr) (d : Option Addr) (c : V) (b : Bool), xs = [.ref a, c] ∧ ExAt H a C d ∧ XcF K C ∧
  ((∃ u, L2.ClsV c u ∧ PySem.W.kitOne K (.ref C) u = some b) ∨ ∃ (tp : Addr) (cs : List V) (us : List Value), c = .ref tp ∧ H tp = some (.tup cs) ∧ Paired L2.ClsV cs us ∧ PySem.W.kitAny K (.ref C) us = some b) ∧ Q (.bl b) H
theorem call_isE {X : Cx} : CallR X (.builtin "isinstance") (rIsE X.K) := by
  intro pins s σ H xs us Q I r h
  obtain ⟨a, C, d, c, b, rfl, ha, hc, hk, q⟩ := h
  obtain ⟨u1, u2, rfl, r1, r2⟩ := vals2 r
  obtain rfl : u1 = Value.ref a := r1
  obtain ⟨ox, od, hI, _⟩ := ha.inst I
  have Z := PySem.W.kitx_exc (x := a) (ox := ox) (od := od) hc.cl hc.ga hc.gg hc.exC hc.cc hc.gt hc.tk hc.ob
  rcases hk with ⟨u, k, e⟩ | ⟨tp, cs, ws, rfl, hT, k, e⟩
  · obtain rfl := k.eq r2
    exact PySem.W.kia_one Z I.kIn hI e (fun z => by cases z) fun tk => ⟨.bl b, H, I.tok tk, rfl, q⟩
  · cases (show u2 = Value.ref tp from r2)
    obtain ⟨_, its, rv, o, h1, h2, n, h3⟩ := (show ObjOk X.prog X.w H s.heap tp (.tup cs) from I.hok tp _ hT)
    have e3 := L2.ClsV.all k rv
    subst e3
    obtain ⟨c1, d1, dt, sl⟩ := o
    dsimp only at h2 h3
    subst h2 h3
    exact PySem.W.kia_tup Z I.kIn hI h1 e (fun z => by cases z) fun tk => ⟨.bl b, H, I.tok tk, rfl, q⟩
def tXfH (K : PySem.W.Frag) (f : Str) (te : TE) : TE := fun σ H Q => te σ H fun x H1 => ∃ (a C dx : Addr) (fs : List (Str × V)) (v : V), x = .ref a ∧ ExAt H1 a C (some dx) ∧ H1 dx = some (.xd fs) ∧ XcF K C ∧ PySem.W.findIn K (.ref C) f = some none ∧ fs.lookup f = some v ∧ Q v H1
end L2
set_option maxRecDepth 100000
namespace Pz
open PySem PySem.Spec PyProof.Rows L2 TL
variable [PenC]
abbrev FDX := List Sl → (PyData → Prop) → (Str → List (Str × PyData) → Prop) → Prop
structure FOkX (f : FDX) (n : Nat) : Prop where
  dat : ∀ ss k e, f ss k e → ss.length = n ∧ allD ss = true
  mono : ∀ ss k k' e e', (∀ d, k d → k' d) → (∀ c fs, e c fs → e' c fs) → f ss k e → f ss k' e'
def spX (f : FDX) : DSp := fun ss cs Q Ed => cs = [] ∧ f ss (fun d => Q (.d d) []) fun c fs => Ed c fs []
section
variable {f : FDX} {n m : Nat} {N : List Str} {τ : DS}
theorem lX (ok : FOkX f n) : ∀ ss cs Q Ed, spX f ss cs Q Ed → ss.length = n := fun ss cs Q Ed h => (ok.dat _ _ _ h.2).1
theorem locX (ok : FOkX f n) {ss : List Sl} {st : Sto} {Q : DK} {Ed : DXF} (h : f ss (fun d => Q (.d d) st) fun c fs => Ed c fs st) : locCall (spX f) ss st Q Ed := by
  have h1 := (ok.dat _ _ _ h).2
  simp only [locCall, hsOf_allD h1, getAll, locS_allD h1, spX]
  refine ⟨fun c m => (by cases m), trivial, ok.mono _ _ _ _ _ (fun d q => ⟨fun c m => (by cases m), ?_⟩) (fun c fs q => ⟨fun c m => (by cases m), ?_⟩) h⟩
  · simpa [gloS, putAll] using q
  · simpa [putAll] using q
abbrev endX (Qd : DK) (Ed : DXF) : DEnds := ⟨fun _ st => Ret 0 (.d .none) st Qd, fun s st => Ret 0 s st Qd, fun c fs _ _ => Ed c fs [], fun _ _ => False, fun _ _ => False⟩
theorem hX (h : ∀ (ss : List Sl) (Qd : DK) (Ed : DXF), (f ss (fun d => Qd (.d d) []) fun c fs => Ed c fs []) → τ (endX Qd Ed) (startS N ss) []) :
    ∀ (ss : List Sl) (cs : Sto) (Qd : DK) (Ed : DXF), spX f ss cs Qd Ed → ss.length = m → cs.length = 0 ∧ τ (endX Qd Ed) (startS N ss) cs := by
  rintro ss cs Qd Ed ⟨rfl, h2⟩ _
  exact ⟨rfl, h ss Qd Ed h2⟩
end
theorem xd_cut {K : Frag} {Z Z' : Zs} (hH : Z'.H = Z.H) (hW : ∀ a, Z'.W a → Z.W a) {fs : List (Str × PyData)} : ∀ {d : Option Addr}, XdOk K Z fs d → XdOk K Z' fs d
  | none, h => h
  | some a, h => by
    obtain ⟨nw, us, e, e2, q⟩ := h
    have q' := ImAll.tr (Stay.less hW) (show Pz.ImAll K Z.W Z.H _ _ from q)
    rw [← hH] at e q'
    exact ⟨fun w => nw (hW _ w), us, e, e2, q'⟩
section
variable {P : Program} {w : World} {K : Frag} {mg : Str → Option Value} {base : Heap} {k : Nat} {f : Addr} {fd : FuncData} {ps N : List Str} {dsp : DSp} {x qual : Str} {st : Stmt}
theorem ends_retX {Z0 Zc : Zs} {Qd : DK} {Q : VK} {Ed : DXF} {E : XK} (hn : Z0.st.length = 0) (ok0 : Ok K Z0) (k : KOk K Z0 Qd Q) (kx : KXF K Z0 Ed E) :
    EndsOk K (fun cls d _ H => E cls d H) Z0 Zc (endX Qd Ed) { nx := fun _ H' => Q .non H', rt := Q } where
  nx := fun Z sl σ l _ ok so h => ret_ok hn l ok (v := .non) (s := .d .none) Im.non h k
  rt := fun Z v s l ok r h => ret_ok hn l ok r h k
  ex := fun Z' σ sl c x d fs l _ ok so xd cv h => by
    have e0 : Z0.φ = [] := List.length_eq_zero_iff.mp (by rw [ok0.len]; exact hn)
    have hW : ∀ a, (Zs.mk [] [] Z'.H Z'.F).W a → Z'.W a := fun a w => by
      rcases w with ⟨i, c, e1, _⟩ | w
      · cases (List.getElem?_nil ▸ e1)
      · exact .inr w
    refine kx (Zs.mk [] [] Z'.H Z'.F) c x d fs ⟨⟨[], by rw [e0]; rfl, fun _ h => by cases h⟩, l.len, fun h c e => ?_, l.frm, l.fgn, l.dom⟩ ⟨rfl, List.nodup_nil, fun h a c e1 _ => ?_, ok.fo, fun a m => (by cases m), ok.tb.less hW⟩ (xd_cut (Z := Z') (Z' := Zs.mk [] [] Z'.H Z'.F) rfl hW xd) cv h
    · have := (List.getElem?_eq_some_iff.mp e).1
      omega
    · cases (List.getElem?_nil ▸ e1)
  bk := fun _ _ _ _ _ _ _ h => h
  ct := fun _ _ _ _ _ _ _ h => h
theorem FnD.ofX (F : Fun K x qual st f fd) (S : FnScope N ps (defScope st)) (τ : DS)
    (hb : ∀ (cdv : Value) (A : Around) (outer : List Env) (s : Shared) (H : Hp) (E : XK) (Z0 : Zs), A.guards = some [] → Room k (A.deeper (envOfC qual (defScope st) s.heap.objs.size f cdv)) → Z0.st.length = 0 →
      Takes (cxOf (L2.CX P w) P w K mg base N qual (defScope st) f cdv A outer s H E) (fun cls d _ H => E cls d H) →
      DSs (cxOf (L2.CX P w) P w K mg base N qual (defScope st) f cdv A outer s H E) (fun cls d _ H => E cls d H) Z0 (defBody st) τ)
    (hw : ∀ (ss : List Sl) (cs : Sto) (Qd : DK) (Ed : DXF), dsp ss cs Qd Ed → ss.length = ps.length → cs.length = 0 ∧ τ (endX Qd Ed) (startS N ss) cs) :
    FnD P w K mg base (L2.CX P w) (k + 1) f fd ps dsp := by
  refine FnG.of F S (fun vs H Q E ⟨Z, ss, Qd, Ed, _, _, ra, hl, _⟩ => ra.length.trans hl) fun cdv A outer s H vs Q E hg hr ⟨Z, ss, Qd, Ed, e, ok, ra, hl, hd, kQ, kE⟩ => ?_
  obtain ⟨hn, q⟩ := hw ss Z.st Qd Ed hd hl
  refine ⟨_, (hb cdv A outer s H E Z hg hr hn (takes_of rfl rfl rfl rfl)).run, ?_⟩
  exact ⟨Z, startS N ss, _, e, .refl ok, ok, startS_ok ra, q, ends_retX hn ok kQ kE⟩
end
section
variable {X : Cx} {E : WXs} {Z0 : Zs} {k n m : Nat} {fa : Addr} {fd : FuncData} {ps ks : List Str} {f : FDX} {x : Str} {p pos : Pos} {e : Expr} {es : List Expr} {t tkw : DA} {kws : List Keyword}
def wCallX (f : FDX) (t : DA) : DE := fun Ed sl st Q => t Ed sl st fun ss st => f ss (fun d => Q (.d d) st) fun c fs => Ed c fs sl st
theorem wCallX_ap {Ed : DX} {sl : Sls} {st : Sto} {Q : DK} : wCallX f t Ed sl st Q = (t Ed sl st fun ss st => f ss (fun d => Q (.d d) st) fun c fs => Ed c fs sl st) := rfl
theorem kxf_of {K : Frag} {Z : Zs} {σ : L2.St} {sl : Sls} {Ed : DX} (so : SlOk K Z σ sl) (kx : KXOk K Z Ed E) : KXF K Z (fun c fs st => Ed c fs sl st) (WE E σ) :=
  fun Z' c x d fs l ok xd cv h => kx Z' σ sl c x d fs l ok (so.tr l) xd cv h
theorem de_callX (tk : Takes X E) (ok : FOkX f n) (F : FnD X.prog X.w X.K X.mg X.base (L2.CX X.prog X.w) k fa fd ps (spX f)) (hA : X.A.guards = some []) (hr : Room k X.A) (hn : n = ps.length) (hg : Gl X x) (hm : X.mg x = some (.ref fa)) (hk : PySem.W.keepIn X.K (.ref fa) = true) (hb : Binds X.K fd ps [])
    (ha : DAs X E (e :: es) t) (hdb : (x == ("__debug__" : Str)) = false := by decide) (he : starEach (e :: es) X.env = (false, eval e X.env) :: starEach es X.env := by rfl) (hpl : (backTo pos (starEach es X.env)).any (·.1) = false := by rfl) :
    DEx X E (.Call (.Name x p) (e :: es) [] pos) (wCallX f t) :=
  ⟨peI (pe_callGS (E := WE E) F hA hr hg hm hk hb (fun σ => passAt tk σ) ha.run hdb he hpl) fun σ H Q ⟨Z, sl, Qd, Ed, h, ok', so, w, kq, kx⟩ =>
    ⟨Z, sl, _, Ed, h, ok', so, w, fun Z1 vs ss l1 ok1 r1 w1 => by
      have w2 : locCall (spX f) ss Z1.st Qd (fun c fs st => Ed c fs sl st) := locX ok w1
      exact loc_sp ok1 r1 (locCall_len w2 fun ss cs Q Ed h => hn ▸ lX ok ss cs Q Ed h) w2 (kq.le l1) (kxf_of (so.tr l1) (kx.le l1)), kx⟩⟩
def wCallWX (n m : Nat) (f : FDX) (g : ∀ {α : Type}, List α → List α → List α) (t tk : DA) : DE := fun Ed sl st Q => t Ed sl st fun ss st => tk Ed sl st fun zs st => ss.length = n ∧ zs.length = m ∧ f (g ss zs) (fun d => Q (.d d) st) fun c fs => Ed c fs sl st
theorem wCallWX_ap {g : ∀ {α : Type}, List α → List α → List α} {Ed : DX} {sl : Sls} {st : Sto} {Q : DK} : wCallWX n m f g t tkw Ed sl st Q = (t Ed sl st fun ss st => tkw Ed sl st fun zs st => ss.length = n ∧ zs.length = m ∧ f (g ss zs) (fun d => Q (.d d) st) fun c fs => Ed c fs sl st) := rfl
variable {gg : ∀ {α : Type}, List α → List α → List α}
end
end Pz
set_option maxRecDepth 100000
namespace Pz
open PySem PySem.Spec PyProof.Rows L2 TL
variable [PenC]
def clsUp : List (Str × Str) := [("PrismError", "ValueError"), ("InvalidText", "PrismError"), ("UnbalancedBracket", "PrismError"), ("IndentedStart", "PrismError"), ("BadDedent", "PrismError"), ("InconsistentTabs", "PrismError"), ("NoIndent", "PrismError"), ("Unreachable", "PrismError"), ("InvalidReading", "PrismError"), ("RootConflict", "PrismError"), ("InvalidTokens", "PrismError"), ("InvalidOperation", "PrismError"), ("InvalidNotation", "PrismError"), ("UnknownCommand", "PrismError"),
  ("TooLong", "OverflowError"), ("TooMany", "OverflowError"), ("NoVariant", "IndexError"), ("NoLine", "IndexError"), ("Busy", "RuntimeError"), ("NothingToUndo", "RuntimeError"), ("NothingToRedo", "RuntimeError")]
def subN : Nat → Str → Str → Bool
  | 0, c, y => c == y
  | n + 1, c, y => c == y || match clsUp.lookup c with
    | some d => subN n d y
    | none => false
def subB (c y : Str) : Bool := subN 3 c y
def NmV (K : Frag) (y : Str) (u : Value) : Prop := ClsV K y u ∨ ∃ n : String, y = Str.ofString n ∧ PySem.W.nsIn K mainGlobals y = some none ∧ u = .type n
def NmF (K : Frag) (mg : Str → Option Value) (y : Str) : Prop := (∃ C, mg y = some (.ref C) ∧ ClsV K y (.ref C)) ∨ ∃ n : String, y = Str.ofString n ∧ mg y = none ∧ bootBuiltins y = some (.type n) ∧ PySem.W.nsIn K mainGlobals y = some none
structure XRel (K : Frag) (mg : Str → Option Value) (L M F : List Str) : Prop where
  own : ∀ c ∈ L, ∀ cv, ClsV K c cv → ∃ C, cv = .ref C ∧ XcF K C
  rel : ∀ c ∈ L, ∀ cv, ClsV K c cv → ∀ y ∈ M, ∀ u, NmV K y u → PySem.W.kitOne K cv u = some (subB c y) ∧ PySem.W.exmOne K cv u = some (subB c y)
  nms : ∀ y ∈ M, NmF K mg y
  fld : ∀ c ∈ L, ∀ cv, ClsV K c cv → ∀ f ∈ F, PySem.W.findIn K cv f = some none
section
variable {K : Frag} {mg : Str → Option Value} {L M F : List Str}
theorem XRel.kit (R : XRel K mg L M F) {c : Str} (hc : c ∈ L) {cv : Value} (h : ClsV K c cv) : ∀ {ys : List Str} {us : List Value}, Paired (NmV K) ys us → (∀ y ∈ ys, y ∈ M) → PySem.W.kitAny K cv us = some (ys.any (subB c))
  | _, _, .nil, _ => rfl
  | _, _, .cons (a := y) (b := u) n r, hm => by
    unfold PySem.W.kitAny
    rw [(R.rel c hc cv h y (hm y List.mem_cons_self) u n).1, List.any_cons]
    cases hb : subB c y with
    | true => rfl
    | false =>
      rw [Bool.false_or]
      exact R.kit hc h r fun z m => hm z (List.mem_cons_of_mem _ m)
end
section
variable {X : Cx} {E : WXs} {Z0 : Zs} {L M F : List Str} {x f : Str} {p pos pos' : Pos} {a e : Expr} {t : DA} {te : DE} {k : Nat}
def wRaise1 (x f : Str) (t : DA) : DS := fun D sl st => t D.ex sl st fun ss st => match ss with
  | [.d y] => D.ex x [(f, y)] sl st
  | _ => False
theorem wRaise1_ap {nx bk ct : Sls → Sto → Prop} {rt : DK} {ex : DX} {sl : Sls} {st : Sto} : wRaise1 x f t ⟨nx, rt, ex, bk, ct⟩ sl st = (t ex sl st fun ss st => match ss with
  | [.d y] => ex x [(f, y)] sl st
  | _ => False) := rfl
def Mk1 (K : Frag) (mg : Str → Option Value) (x f : Str) : Prop := ∃ (C fI : Addr) (B newId initId : String) (bmB : List Value) (qn : Str), mg x = some (.ref C) ∧ ClsV K x (.ref C) ∧ ExcBaseFacts B newId initId bmB ∧ PySem.Xc.InitRun B newId initId bmB f qn K C fI ∧ PySem.Xc.Txt B newId initId bmB f qn K C fI
theorem ds_raise1 (f : Str) (hc : X.calm = true) (tk : Takes X E) (h1 : Mk1 X.K X.mg x f) (hr : Room k X.A) (hg : Gl X x) (ha : DAs X E [a] t)
    (hdb : (x == ("__debug__" : Str)) = false := by decide) (he : starEach (a :: []) X.env = (false, eval a X.env) :: starEach [] X.env := by rfl) (hpl : (backTo pos (starEach [] X.env)).any (·.1) = false := by rfl) :
    DSt X E Z0 (.Raise (some (.Call (.Name x p) [a] [] pos)) none pos') (wRaise1 x f t) := by
  obtain ⟨C, fI, B, newId, initId, bmB, qn, gC, cv, FB, IR, T⟩ := h1
  refine ⟨psI (ps_raise hc tk (pmk1 FB IR T gC hr ha.run hg hdb he hpl)) fun D σ H ⟨Z, sl, Dd, h, l0, ok, so, w, en⟩ => ?_⟩
  refine ⟨Z, sl, _, Dd.ex, h, ok, so, w, fun Z1 vs ss l1 ok1 r1 w1 => ?_, en.ex.le l0⟩
  dsimp only at w1
  split at w1
  · rename_i y
    rcases r1 with _ | ⟨ry, rn⟩
    cases rn
    rename_i v
    refine ⟨v, rfl, fun d nd => ?_⟩
    have l2 := ok1.leNew (o := .xd [(f, v)]) nd
    have ry' : (Z1.new d (.xd [(f, v)])).Im X.K v y := Rp.tr l2 (s := .d y) ry
    exact en.ex (Z1.new d (.xd [(f, v)])) σ sl (.ref C) x (some d) [(f, y)] ((l0.trans l1).trans l2) (l1.trans l2).stay (ok1.new nd) ((so.tr l1).tr l2)
      ⟨fun w => ok1.nw nd w, [(f, v)], upd_same, rfl, .cons ry' .nil⟩ cv w1
  · exact w1.elim
def Mk0 (K : Frag) (mg : Str → Option Value) (x : Str) : Prop := ∃ (C : Addr) (B newId initId : String) (bmB : List Value), mg x = some (.ref C) ∧ ClsV K x (.ref C) ∧ ExcBaseFacts B newId initId bmB ∧ PySem.W.excIn K C bmB newId = true ∧ PySem.W.keepIn K (.ref C) = true ∧ PySem.W.subIn K (.ref C) (.type "BaseException") = some true ∧ PySem.W.typeIn K (.ref C) = some (.type "type")
def wRaise0 (x : Str) : DS := fun D sl st => D.ex x [] sl st
theorem wRaise0_ap {nx bk ct : Sls → Sto → Prop} {rt : DK} {ex : DX} {sl : Sls} {st : Sto} : wRaise0 x ⟨nx, rt, ex, bk, ct⟩ sl st = ex x [] sl st := rfl
theorem nm_val {y : Str} (h : NmF X.K X.mg y) (hg : Gl X y) (hn : y ≠ "__name__") (hd : (y == ("__debug__" : Str)) = false) : ∃ u c, NmV X.K y u ∧ L2.ClsV c u ∧ Names X y u ∧ PE X (.Name y p) (tC c) := by
  rcases h with ⟨C, h1, h2⟩ | ⟨n, rfl, h1, h2, h3⟩
  · exact ⟨.ref C, .ref C, .inl h2, .own C, ⟨hg, hd, .inl h1⟩, pe_glob hg h1 rfl hd⟩
  · exact ⟨.type n, .ty n, .inr ⟨n, rfl, h3, rfl⟩, .ty n, ⟨hg, hd, .inr ⟨h1, h2, hn⟩⟩, pe_bltn hg h1 h2 rfl hn hd⟩
inductive NmsL (X : Cx) (M : List Str) : List Expr → List Str → Prop
  | nil : NmsL X M [] []
  | cons {y : Str} {p : Pos} {es : List Expr} {ys : List Str} (hm : y ∈ M) (r : NmsL X M es ys) (hg : Gl X y := by rfl) (hn : y ≠ "__name__" := by decide) (hd : (y == ("__debug__" : Str)) = false := by decide) (hs : starEach (.Name y p :: es) X.env = (false, eval (.Name y p) X.env) :: starEach es X.env := by rfl) : NmsL X M (.Name y p :: es) (y :: ys)
theorem NmsL.mem {es : List Expr} {ys : List Str} (h : NmsL X M es ys) : ∀ y ∈ ys, y ∈ M := by
  induction h with
  | nil => intro y m; cases m
  | cons hm r _ _ _ _ ih => exact fun y m => (List.mem_cons.mp m).elim (fun e => e ▸ hm) (ih y)
theorem NmsL.val (R : XRel X.K X.mg L M F) {es : List Expr} {ys : List Str} (h : NmsL X M es ys) : ∃ us cs, Paired (NmV X.K) ys us ∧ Paired L2.ClsV cs us ∧ NmL X es us ∧ ∃ ta : TA, PA X es ta ∧ ∀ σ H (Q : List V → Hp → Prop), Q cs H → ta σ H Q := by
  induction h with
  | nil => exact ⟨[], [], .nil, .nil, .nil, _, pa_nil, fun σ H Q q => q⟩
  | @cons y p es ys hm r hg hn hd hs ih =>
    obtain ⟨us, cs, h1, h2, h3, ta, h4, h5⟩ := ih
    obtain ⟨u, c, q1, q2, q3, q4⟩ := nm_val (p := p) (R.nms y hm) hg hn hd
    exact ⟨u :: us, c :: cs, .cons q1 h1, .cons q2 h2, .cons q3 h3 hs, _, pa_cons q4 h4 hs, fun σ H Q q => h5 σ H _ q⟩
def NmsT (X : Cx) (te : Expr) (M ys : List Str) : Prop := (∀ y ∈ ys, y ∈ M) ∧ ∀ {L F : List Str}, XRel X.K X.mg L M F → ∃ us, Paired (NmV X.K) ys us ∧ ClTest X te us
theorem paired_len {α β : Type} {R : α → β → Prop} : ∀ {as : List α} {bs : List β}, Paired R as bs → as.length = bs.length
  | _, _, .nil => rfl
  | _, _, .cons _ r => by rw [List.length_cons, List.length_cons, paired_len r]
def wTry (L ys : List Str) (i j : Nat) (u : DS) : DS := fun D sl st => u ⟨D.nx, D.rt, fun c fs sl' st' => c ∈ L ∧ if ys.any (subB c) = true then D.nx (((sl'.set i (some (.o st'.length))).set j (some (.o st'.length))).set i none) (st' ++ [.exc c fs]) else D.ex c fs sl' st', D.bk, D.ct⟩ sl st
theorem wTry_ap {ys : List Str} {i j : Nat} {u : DS} {nx bk ct : Sls → Sto → Prop} {rt : DK} {ex : DX} {sl : Sls} {st : Sto} : wTry L ys i j u ⟨nx, rt, ex, bk, ct⟩ sl st = u ⟨nx, rt, fun c fs sl' st' => c ∈ L ∧ if ys.any (subB c) = true then nx (((sl'.set i (some (.o st'.length))).set j (some (.o st'.length))).set i none) (st' ++ [.exc c fs]) else ex c fs sl' st', bk, ct⟩ sl st := rfl
theorem SlOk.setN {K : Frag} {Z : Zs} {σ : L2.St} {sl : Sls} (h : SlOk K Z σ sl) (i : Nat) : SlOk K Z (σ.set i none) (sl.set i none) := by
  refine ⟨by simpa using h.len, fun j t e => ?_⟩
  by_cases hj : i = j
  · subst hj
    rcases Nat.lt_or_ge i sl.length with q | q
    · rw [List.getElem?_set_self q] at e; cases e
    · rw [List.getElem?_eq_none (by simpa using q)] at e; cases e
  · rw [List.getElem?_set_ne hj] at e
    obtain ⟨u, q, r'⟩ := h.has j t e
    exact ⟨u, by rw [List.getElem?_set_ne hj]; exact q, r'⟩
def excF : List (PyData × PyData) → Option (List (Str × PyData))
  | [] => some []
  | (.str f, x) :: r => (excF r).map fun l => (f, x) :: l
  | _ => none
theorem excF_map : ∀ fs : List (Str × PyData), excF (fs.map fun p => (.str p.1, p.2)) = some fs
  | [] => rfl
  | (f, x) :: r => by simp [excF, excF_map r]
theorem excF_zip {us : List (Str × V)} : ∀ {ds : List PyData} {fs : List (Str × PyData)}, us.length = ds.length → excF ((us.map fun p => PyData.str p.1).zip ds) = some fs → us.map (·.1) = fs.map (·.1) ∧ ds = fs.map (·.2) := by
  induction us with
  | nil =>
    intro ds fs l h
    cases ds with
    | nil => cases h; exact ⟨rfl, rfl⟩
    | cons _ _ => cases l
  | cons u us ih =>
    intro ds fs l h
    cases ds with
    | nil => cases l
    | cons d ds =>
      rw [List.map_cons, List.zip_cons_cons, excF] at h
      obtain ⟨fs', h1, rfl⟩ := Option.map_eq_some_iff.mp h
      obtain ⟨q1, q2⟩ := ih (by simpa using l) h1
      exact ⟨by rw [List.map_cons, List.map_cons, q1], by rw [List.map_cons, q2]⟩
def excOf (st : Sto) : Sl → Option (Str × List (Str × PyData))
  | .o h => match st[h]? with
    | some (.exc c fs) => some (c, fs)
    | _ => none
  | .d (.dict ((.none, .str c) :: r)) => (excF r).map fun fs => (c, fs)
  | _ => none
theorem excOf_d {st : Sto} {c : Str} {fs : List (Str × PyData)} : excOf st (.d (excD c fs)) = some (c, fs) := by
  unfold excD excOf
  dsimp only
  rw [excF_map]
  rfl
theorem excOf_o {st : Sto} {h : Nat} : excOf st (.o h) = match st[h]? with
    | some (.exc c fs) => some (c, fs)
    | _ => none := rfl
theorem excOf_ok {Z : Zs} (ok : Ok X.K Z) {v : V} {s : Sl} {c : Str} {fs : List (Str × PyData)} (r : Rp X.K Z v s) (e : excOf Z.st s = some (c, fs)) : ∃ a cv d, v = .ref a ∧ ClsV X.K c cv ∧ Z.H a = some (ExO cv d a) ∧ XcOk X.K Z fs d := by
  cases s with
  | o h =>
    rw [excOf_o] at e
    obtain ⟨a, ct, ev, e1, e2, e3⟩ := r
    rw [e2] at e
    cases ct with
    | exc c' fs' =>
      cases e
      obtain ⟨cv, d, h1, h2, h3⟩ := ok.ct h a _ e1 e2
      exact ⟨a, cv, d, ev, h1, h2, h3⟩
    | _ => cases e
  | d x =>
    unfold excOf at e
    split at e
    · rename_i h; cases h
    · rename_i c2 l hq
      obtain ⟨fs2, e1, e2⟩ := Option.map_eq_some_iff.mp e
      cases e2
      cases hq
      have i : Im X.K Z.W Z.H v (.dict ((.none, .str c) :: l)) := r
      generalize hx : PyData.dict ((.none, .str c) :: l) = x at i
      cases i with
      | dct h1 h2 h3 =>
        rename_i a us ds
        exfalso
        cases us with
        | nil => cases hx
        | cons w us =>
          cases ds with
          | nil => cases hx
          | cons d ds => obtain ⟨⟨k | k⟩, w⟩ := w <;> cases hx
      | exc h1 h2 h3 h4 h5 h6 =>
        rename_i a cv d c2 us ds
        cases hx
        obtain ⟨q1, q2⟩ := excF_zip (by rw [← h6.length, List.length_map]) e1
        subst q2
        refine ⟨a, cv, d, rfl, h1, h3, ?_⟩
        cases d with
        | none =>
          have h5' : us = [] := h5
          subst h5'
          exact List.map_eq_nil_iff.mp q1.symm
        | some dx => exact ⟨h5.1, us, h5.2, q1, h6⟩
      | _ => cases hx
    · cases e
  | _ => cases e
theorem exAt_of {Z : Zs} {a C : Addr} {d : Option Addr} {fs : List (Str × PyData)} (h : Z.H a = some (ExO (.ref C) d a)) (x : XcOk X.K Z fs d) : ExAt Z.H a C d := ⟨h, fun dx e => by
  subst e
  obtain ⟨_, us, q, _⟩ := x
  exact ⟨us, q⟩⟩
def wIsE (L ys : List Str) (te : DE) : DE := fun Ed sl st Q => te Ed sl st fun s st => match excOf st s with
  | some (c, _) => c ∈ L ∧ Q (.d (.bool (ys.any (subB c)))) st
  | none => False
theorem wIsE_ap {ys : List Str} {Ed : DX} {sl : Sls} {st : Sto} {Q : DK} : wIsE L ys te Ed sl st Q = (te Ed sl st fun s st => match excOf st s with
  | some (c, _) => c ∈ L ∧ Q (.d (.bool (ys.any (subB c)))) st
  | none => False) := rfl
theorem de_isE1 {y : Str} {p2 : Pos} (R : XRel X.K X.mg L M F) (he : DEx X E e te) (hy : y ∈ M) (hg : Gl X "isinstance") (hm : X.mg "isinstance" = none) (hv : bootBuiltins "isinstance" = some (.builtin "isinstance")) (hgy : Gl X y := by rfl) (hn : y ≠ "__name__" := by decide) (hd : (y == ("__debug__" : Str)) = false := by decide)
    (hs1 : starEach [e, .Name y p2] X.env = (false, eval e X.env) :: starEach [.Name y p2] X.env := by rfl) (hs2 : starEach [.Name y p2] X.env = (false, eval (.Name y p2) X.env) :: starEach [] X.env := by rfl) (hpl : (backTo pos (starEach [.Name y p2] X.env)).any (·.1) = false := by rfl) :
    DEx X E (.Call (.Name "isinstance" p) [e, .Name y p2] [] pos) (wIsE L [y] te) := by
  obtain ⟨u, c, q1, q2, q3, q4⟩ := nm_val (p := p2) (R.nms y hy) hgy hn hd
  refine ⟨peI (pe_callB call_isE hg hm hv (pa_cons he.run (pa_cons q4 pa_nil hs2) hs1) (by decide) (by decide) hs1 hpl) fun σ H Q ⟨Z, sl, Qd, Ed, h, ok, so, w, kq, kx⟩ => ?_⟩
  refine ⟨Z, sl, _, Ed, h, ok, so, w, fun Z1 v s l1 ok1 r1 w1 => ?_, kx⟩
  dsimp only at w1
  split at w1
  · rename_i c' fs ec
    obtain ⟨hL, w1⟩ := w1
    obtain ⟨a, cv, d, rfl, h1, h2, h3⟩ := excOf_ok ok1 r1 ec
    obtain ⟨C, rfl, xf⟩ := R.own c' hL cv h1
    refine ⟨a, C, d, c, _, rfl, exAt_of h2 h3, xf, .inl ⟨u, q2, ?_⟩, (kq.le l1).now ok1 (.bl _) w1⟩
    rw [(R.rel c' hL _ h1 y hy u q1).1, List.any_cons, List.any_nil, Bool.or_false]
  · exact w1.elim
theorem de_isET {es : List Expr} {ys : List Str} {kk : Nat} {p2 : Pos} (R : XRel X.K X.mg L M F) (he : DEx X E e te) (hy : NmsL X M es ys) (hg : Gl X "isinstance") (hm : X.mg "isinstance" = none) (hv : bootBuiltins "isinstance" = some (.builtin "isinstance")) (hl : ys.length ≤ 100 := by decide)
    (hs1 : starEach [e, .Tuple es kk p2] X.env = (false, eval e X.env) :: starEach [.Tuple es kk p2] X.env := by rfl) (hs2 : starEach [.Tuple es kk p2] X.env = (false, eval (.Tuple es kk p2) X.env) :: starEach [] X.env := by rfl) (hpl : (backTo pos (starEach [.Tuple es kk p2] X.env)).any (·.1) = false := by rfl) :
    DEx X E (.Call (.Name "isinstance" p) [e, .Tuple es kk p2] [] pos) (wIsE L ys te) := by
  obtain ⟨us, cs, h1, h2, h3, ta, h4, h5⟩ := hy.val R
  refine ⟨peI (pe_callB call_isE hg hm hv (pa_cons he.run (pa_cons (pe_tup h4) pa_nil hs2) hs1) (by decide) (by decide) hs1 hpl) fun σ H Q ⟨Z, sl, Qd, Ed, h, ok, so, w, kq, kx⟩ => ?_⟩
  refine ⟨Z, sl, _, Ed, h, ok, so, w, fun Z1 v s l1 ok1 r1 w1 => ?_, kx⟩
  dsimp only at w1
  split at w1
  · rename_i c' fs ec
    obtain ⟨hL, w1⟩ := w1
    obtain ⟨a, cv, d, rfl, g1, g2, g3⟩ := excOf_ok ok1 r1 ec
    obtain ⟨C, rfl, xf⟩ := R.own c' hL cv g1
    refine h5 _ _ _ ⟨by rw [paired_len h2, ← paired_len h1, sizeLine_eq]; omega, fun tp nt => ?_⟩
    have l2 := ok1.leNew (o := .tup cs) nt
    have okN := ok1.new (o := .tup cs) nt
    have rN := r1.tr l2
    have g2' : (Z1.new tp (.tup cs)).H a = some (ExO (.ref C) d a) := upd_keep nt g2
    have g3' : XcOk X.K (Z1.new tp (.tup cs)) fs d := g3.tr l2.stay
    exact ⟨a, C, d, .ref tp, _, rfl, exAt_of g2' g3', xf, .inr ⟨tp, cs, us, rfl, upd_same, h2, R.kit hL g1 h1 hy.mem⟩, (kq.le (l1.trans l2)).now okN (.bl _) w1⟩
  · exact w1.elim
def wXf (L : List Str) (f : Str) (te : DE) : DE := fun Ed sl st Q => te Ed sl st fun s st => match excOf st s with
  | some (c, fs) => c ∈ L ∧ ∃ d, fs.lookup f = some d ∧ Q (.d d) st
  | none => False
theorem wXf_ap {Ed : DX} {sl : Sls} {st : Sto} {Q : DK} : wXf L f te Ed sl st Q = (te Ed sl st fun s st => match excOf st s with
  | some (c, fs) => c ∈ L ∧ ∃ d, fs.lookup f = some d ∧ Q (.d d) st
  | none => False) := rfl
theorem lookup_im {K : Frag} {W : Addr → Prop} {H : Hp} {f : Str} {d : PyData} : ∀ {us : List (Str × V)} {fs : List (Str × PyData)}, us.map (·.1) = fs.map (·.1) → ImAll K W H (us.map (·.2)) (fs.map (·.2)) → fs.lookup f = some d → ∃ v, us.lookup f = some v ∧ Im K W H v d
  | [], [], _, _, e => by cases e
  | [], _ :: _, e, _, _ => by cases e
  | _ :: _, [], e, _, _ => by cases e
  | (g, v) :: us, (g', d') :: fs, e, q, h => by
    simp only [List.map_cons, List.cons.injEq] at e
    obtain ⟨rfl, e⟩ := e
    rcases q with _ | ⟨q1, q2⟩
    rw [List.lookup_cons] at h ⊢
    cases hb : f == g with
    | true =>
      rw [hb] at h
      cases h
      exact ⟨v, rfl, q1⟩
    | false =>
      rw [hb] at h
      exact lookup_im e q2 h
end
theorem is_some {α : Type} {o : Option α} {x : α} (h : o = some x) : o.isSome = true := by rw [h]; rfl
theorem ac {α : Type} {P : α → Prop} {a : α} {l : List α} (h : P a) (r : ∀ c ∈ l, P c) : ∀ c ∈ a :: l, P c := fun c m => (List.mem_cons.mp m).elim (fun e => e ▸ h) (r c)
theorem an {α : Type} {P : α → Prop} : ∀ c ∈ ([] : List α), P c := fun c m => by cases m
def NmK (K : Frag) (y : Str) : Prop := (∃ C, PySem.W.nsIn K mainGlobals y = some (some (.ref C))) ∨ ∃ n : String, y = Str.ofString n ∧ bootBuiltins y = some (.type n) ∧ PySem.W.nsIn K mainGlobals y = some none
structure XRelK (K : Frag) (L M F : List Str) : Prop where
  own : ∀ c ∈ L, ∀ cv, ClsV K c cv → ∃ C, cv = .ref C ∧ XcF K C
  rel : ∀ c ∈ L, ∀ cv, ClsV K c cv → ∀ y ∈ M, ∀ u, NmV K y u → PySem.W.kitOne K cv u = some (subB c y) ∧ PySem.W.exmOne K cv u = some (subB c y)
  nms : ∀ y ∈ M, NmK K y
  fld : ∀ c ∈ L, ∀ cv, ClsV K c cv → ∀ f ∈ F, PySem.W.findIn K cv f = some none
theorem XRelK.to {K : Frag} {h : Heap} {mg : Str → Option Value} {L M F : List Str} (R : XRelK K L M F) (X : K.In h) (G : h.Ns mainGlobals mg) : XRel K mg L M F :=
  ⟨R.own, R.rel, fun y m => by
    rcases R.nms y m with ⟨C, e⟩ | ⟨n, e1, e2, e3⟩
    · exact .inl ⟨C, PySem.W.mg_of X G e, e⟩
    · exact .inr ⟨n, e1, PySem.W.mg_none_of X G e3, e2, e3⟩, R.fld⟩
section
variable {K : Frag} {c y f : Str} {C D : Addr} {cv u : Value} {b : Bool}
theorem own_of (e : PySem.W.nsIn K mainGlobals c = some (some (.ref C))) (h : XcF K C) : ∀ cv, ClsV K c cv → ∃ C, cv = .ref C ∧ XcF K C := fun cv q => ⟨C, q.eq e, h⟩
theorem rel_own (e : PySem.W.nsIn K mainGlobals y = some (some (.ref D))) (h1 : PySem.W.kitOne K cv (.ref D) = some b) (h2 : PySem.W.exmOne K cv (.ref D) = some b) (hb : b = subB c y) : ∀ u, NmV K y u → PySem.W.kitOne K cv u = some (subB c y) ∧ PySem.W.exmOne K cv u = some (subB c y) := fun u q => by
  subst hb
  rcases q with q | ⟨n, _, q, _⟩
  · obtain rfl := ClsV.eq q e
    exact ⟨h1, h2⟩
  · rw [e] at q; cases q
theorem ofString_inj {a b : String} (h : Str.ofString a = Str.ofString b) : a = b := by
  have h2 := congrArg tl h
  rw [tl_lit, tl_lit] at h2
  have h3 : a.toList = b.toList := by
    have inj : ∀ {l1 l2 : List Char}, l1.map Char.toNat = l2.map Char.toNat → l1 = l2 := by
      intro l1
      induction l1 with
      | nil => intro l2 h; cases l2 with
        | nil => rfl
        | cons _ _ => cases h
      | cons x l1 ih => intro l2 h; cases l2 with
        | nil => cases h
        | cons y l2 =>
          simp only [List.map_cons, List.cons.injEq] at h
          rw [ih h.2, Char.toNat_inj.mp h.1]
    exact inj h2
  exact String.toList_inj.mp h3
theorem rel_bi {n : String} (e : PySem.W.nsIn K mainGlobals (Str.ofString n) = some none) (h1 : PySem.W.kitOne K cv (.type n) = some b) (h2 : PySem.W.exmOne K cv (.type n) = some b) (hb : b = subB c (Str.ofString n)) : ∀ u, NmV K (Str.ofString n) u → PySem.W.kitOne K cv u = some (subB c (Str.ofString n)) ∧ PySem.W.exmOne K cv u = some (subB c (Str.ofString n)) := fun u q => by
  subst hb
  rcases q with q | ⟨m, hm, q, rfl⟩
  · unfold ClsV at q
    rw [e] at q; cases q
  · obtain rfl := ofString_inj hm
    exact ⟨h1, h2⟩
theorem rel_of {M : List Str} (e : PySem.W.nsIn K mainGlobals c = some (some (.ref C))) (h : ∀ y ∈ M, ∀ u, NmV K y u → PySem.W.kitOne K (.ref C) u = some (subB c y) ∧ PySem.W.exmOne K (.ref C) u = some (subB c y)) :
    ∀ cv, ClsV K c cv → ∀ y ∈ M, ∀ u, NmV K y u → PySem.W.kitOne K cv u = some (subB c y) ∧ PySem.W.exmOne K cv u = some (subB c y) := fun cv q => by
  obtain rfl := ClsV.eq q e
  exact h
theorem fld_of {F : List Str} (e : PySem.W.nsIn K mainGlobals c = some (some (.ref C))) (h : ∀ f ∈ F, PySem.W.findIn K (.ref C) f = some none) : ∀ cv, ClsV K c cv → ∀ f ∈ F, PySem.W.findIn K cv f = some none := fun cv q => by
  obtain rfl := ClsV.eq q e
  exact h
theorem nm_own (e : PySem.W.nsIn K mainGlobals y = some (some (.ref D))) : NmK K y := .inl ⟨D, e⟩
theorem nm_bi {n : String} (h : bootBuiltins (Str.ofString n) = some (.type n)) (e : PySem.W.nsIn K mainGlobals (Str.ofString n) = some none) : NmK K (Str.ofString n) := .inr ⟨n, rfl, h, e⟩
end
def Mk1K (K : Frag) (x f : Str) : Prop := ∃ (C fI : Addr) (B newId initId : String) (bmB : List Value) (qn : Str), PySem.W.nsIn K mainGlobals x = some (some (.ref C)) ∧ ExcBaseFacts B newId initId bmB ∧ PySem.Xc.InitRun B newId initId bmB f qn K C fI ∧ PySem.Xc.Txt B newId initId bmB f qn K C fI
theorem Mk1K.to {K : Frag} {h : Heap} {mg : Str → Option Value} {x f : Str} (R : Mk1K K x f) (X : K.In h) (G : h.Ns mainGlobals mg) : Mk1 K mg x f := by
  obtain ⟨C, fI, B, a, b, bm, qn, e, h1, h2, h3⟩ := R
  exact ⟨C, fI, B, a, b, bm, qn, PySem.W.mg_of X G e, e, h1, h2, h3⟩
def Mk0K (K : Frag) (x : Str) : Prop := ∃ (C : Addr) (B newId initId : String) (bmB : List Value), PySem.W.nsIn K mainGlobals x = some (some (.ref C)) ∧ ExcBaseFacts B newId initId bmB ∧ PySem.W.excIn K C bmB newId = true ∧ PySem.W.keepIn K (.ref C) = true ∧ PySem.W.subIn K (.ref C) (.type "BaseException") = some true ∧ PySem.W.typeIn K (.ref C) = some (.type "type")
theorem Mk0K.to {K : Frag} {h : Heap} {mg : Str → Option Value} {x : Str} (R : Mk0K K x) (X : K.In h) (G : h.Ns mainGlobals mg) : Mk0 K mg x := by
  obtain ⟨C, B, a, b, bm, e, h1, h2⟩ := R
  exact ⟨C, B, a, b, bm, PySem.W.mg_of X G e, e, h1, h2⟩
end Pz
set_option maxRecDepth 100000
namespace Pz
open PySem PySem.Spec PyProof.Rows L2 TL
variable [PenC]
section
variable {X : Cx} {E : WXs} {Z0 : Zs} {e : Expr} {es : List Expr} {t : DA} {pos p : Pos} {x : Str} {f : FDX} {n k m : Nat} {N : List Str} {τ : DS}
def spXO (f : FDX) : DSp := fun ss cs Q Ed => cs = [] ∧ f ss (fun d => match d with
  | .list ds => Q (.o 0) [.lst ds]
  | _ => False) fun c fs => Ed c fs []
def aXO (f : FDX) (ss : List Sl) (st : Sto) (Q : DK) (Ed : DXF) : Prop := f ss (fun d => match d with
  | .list ds => Q (.o st.length) (st ++ [.lst ds])
  | _ => False) fun c fs => Ed c fs st
def wCallXO (f : FDX) (t : DA) : DE := fun Ed sl st Q => t Ed sl st fun ss st => aXO f ss st Q fun c fs st => Ed c fs sl st
theorem wCallXO_ap {Ed : DX} {sl : Sls} {st : Sto} {Q : DK} : wCallXO f t Ed sl st Q = (t Ed sl st fun ss st => aXO f ss st Q fun c fs st => Ed c fs sl st) := rfl
variable {fa : Addr} {fd : FuncData} {ps : List Str}
end
end Pz
set_option maxRecDepth 100000
namespace Pz
open PySem PySem.Spec PyProof.Rows L2 TL
variable [PenC]
def isKy : PyData → Bool
  | .none => false
  | _ => true
mutual
def noLst : PyData → Bool
  | .none | .bool _ | .int _ | .str _ => true
  | .list _ => false
  | .tuple ds => noLstAll ds
  | .dict kvs => noLstKv kvs
def noLstAll : List PyData → Bool
  | [] => true
  | x :: xs => noLst x && noLstAll xs
def noLstKv : List (PyData × PyData) → Bool
  | [] => true
  | (k, v) :: r => isKy k && (noLst v && noLstKv r)
end
theorem noLstKv_zip : ∀ {ks ds : List PyData}, ks.length = ds.length → noLstKv (ks.zip ds) = true → noLstAll ds = true
  | [], [], _, _ => rfl
  | [], _ :: _, h, _ => by simp at h
  | _ :: _, [], h, _ => by simp at h
  | k :: ks, d :: ds, h, e => by
    rw [List.zip_cons_cons, noLstKv, Bool.and_eq_true, Bool.and_eq_true] at e
    rw [noLstAll, e.2.1, noLstKv_zip (by simpa using h) e.2.2]
    rfl
section
variable {X : Cx} {pins : List (Addr × Obj)} {σ : L2.St} {H : Hp} {s : Shared} {W : Addr → Prop}
theorem keys_reads {P : Program} {w : World} {kvs : List (Key × V)} {xs : List (Key × Value)} (r : KV kvs xs) : ∀ {es : List DictEntry}, PySem.Pairs (mixKind P w) es xs → ReadsAll s.heap (es.map (·.key)) (kvs.map fun p => keyD p.1) [] ∧ Vals (kvs.map (·.2)) (es.map (·.val)) := by
  induction r with
  | nil =>
    intro es p
    cases p
    exact ⟨.nil, .nil⟩
  | cons h _ ih =>
    intro es p
    cases p with
    | cons p1 p2 p3 =>
      obtain ⟨i1, i2⟩ := ih p3
      rename_i a b l1 l2 r0 e es'
      obtain ⟨ha, hb⟩ := h
      refine ⟨?_, ?_⟩
      · have : Reads s.heap e.key (keyD a.1) [] := by
          rw [ha]
          have p1' : keyIs b.1 e.key = true := p1
          rcases keyIs_shape p1' with ⟨i, t, e1, e2⟩ | ⟨x, t, e1, e2⟩
          · rw [e1, e2]; exact .int i t
          · rw [e1, e2]; exact .str x t
        exact ReadsAll.cons (as := []) (bs := []) this i1
      · exact .cons (show RelV a.snd e.val by rw [p2]; exact hb) i2
mutual
theorem Im.reads (I : Inv X pins σ H s) : ∀ {v : V} {d : PyData}, Im X.K W H v d → noLst d = true → ∀ {u : Value}, RelV v u → ∃ as, Reads s.heap u d as ∧ sysModules ∉ as
  | _, _, .non, _, _, r => by cases r; exact ⟨_, .none, by simp⟩
  | _, _, .bl b, _, _, r => by cases r; exact ⟨_, .bool b, by simp⟩
  | _, _, .int i, _, _, r => by obtain ⟨t, rfl⟩ := r; exact ⟨_, .int i t, by simp⟩
  | _, _, .str x, _, _, r => by obtain ⟨t, rfl⟩ := r; exact ⟨_, .str x t, by simp⟩
  | _, _, .lst _ _ _, e, _, _ => by simp [noLst] at e
  | _, _, .tup (a := a) q r, e, _, rv => by
    obtain rfl := rv
    obtain ⟨its, rv, ⟨o, ho, hc, n, hd⟩, _⟩ := I.tuple q.sq
    obtain ⟨as, h1, h2⟩ := ImAll.reads I r (by simpa [noLst] using e) rv
    exact ⟨as, .tuple ho hc hd h1, h2⟩
  | _, _, .dct (a := a) (kvs := kvs) (ds := ds) q n r, e, _, rv => by
    obtain rfl := rv
    have hh := I.hok a _ q
    unfold L2.ObjOk at hh
    obtain ⟨_, q1, vs, kv, o, es, ep, g1, g2, g3, g4, g5, g6⟩ := hh
    obtain ⟨k1, k2⟩ := keys_reads (s := s) kv g5
    have hl := r.length
    rw [List.length_map] at hl
    have e2 : noLstKv ((kvs.map fun p => keyD p.1).zip ds) = true := by simpa [noLst] using e
    have e3 : noLstAll ds = true := noLstKv_zip (by rw [List.length_map]; exact hl) e2
    obtain ⟨as, h1, h2⟩ := ImAll.reads I r e3 k2
    have m1 : ((kvs.map fun p => keyD p.1).zip ds).map (·.1) = kvs.map fun p => keyD p.1 := List.map_fst_zip (by rw [List.length_map]; omega)
    have m2 : ((kvs.map fun p => keyD p.1).zip ds).map (·.2) = ds := List.map_snd_zip (by rw [List.length_map]; omega)
    refine ⟨a :: [] ++ as, .dict g1 g2.1 g3 (by rw [m1]; exact k1) (by rw [m2]; exact h1), ?_⟩
    intro m
    rcases List.mem_cons.mp m with m | m
    · rw [← m] at q1
      simp at q1
    · exact h2 m
  | _, _, .dcl _ _ _, e, _, _ => by simp [noLst, noLstKv, isKy, mkK] at e
  | _, _, .dcT _ _ _, e, _, _ => by simp [noLst, noLstKv, isKy, mkT] at e
  | _, _, .dcN _ _ _, e, _, _ => by simp [noLst, noLstKv, isKy, mkN] at e
  | _, _, .exc _ _ _ _ _ _, e, _, _ => by simp [noLst, noLstKv, isKy] at e
theorem ImAll.reads (I : Inv X pins σ H s) : ∀ {vs : List V} {ds : List PyData}, ImAll X.K W H vs ds → noLstAll ds = true → ∀ {us : List Value}, Vals vs us → ∃ as, ReadsAll s.heap us ds as ∧ sysModules ∉ as
  | _, _, .nil, _, _, r => by cases r; exact ⟨_, .nil, by simp⟩
  | _, _, .cons q t, e, _, r => by
    simp only [noLstAll, Bool.and_eq_true] at e
    cases r with
    | cons r1 r2 =>
      obtain ⟨as, h1, h2⟩ := Im.reads I q e.1 r1
      obtain ⟨bs, h3, h4⟩ := ImAll.reads I t e.2 r2
      exact ⟨_, .cons h1 h3, by simp [h2, h4]⟩
end
end
structure RepZ (d : PyData) : Prop where
  no : noLst d = true
  sw : d.showable = true
  st : PyData.strOk d.shown = true
  ln : d.shown.length ≤ sizeLine
  dp : d.depth ≤ 60
theorem RepZ.sh {d : PyData} (h : RepZ d) : SeqAt.shaped (.str d.shown) = true := sh_str h.st
def rShowZ (K : Frag) : List V → Hp → VK → Prop := fun xs H Q => rShow K xs H Q ∨ ∃ (a : Addr) (d : PyData) (W : Addr → Prop), xs = [.ref a] ∧ Im K W H (.ref a) d ∧ RepZ d ∧ Q (.str d.shown) H
theorem call_reprZ0 {X : Cx} (hA : X.A.guards = some []) (hu : X.A.units + 64 < cLine) : CallR X (.builtin "repr") (fun xs H Q => ∃ (a : Addr) (d : PyData) (W : Addr → Prop), xs = [.ref a] ∧ Im X.K W H (.ref a) d ∧ RepZ d ∧ Q (.str d.shown) H) := by
  intro pins s σ H xs us Q I r h
  obtain ⟨a, d, W, rfl, hi, hz, q⟩ := h
  obtain ⟨u, rfl, ru⟩ := vals1 r
  obtain rfl := ru
  have fin : ∀ (h' : Heap) (t : Tok) (k : Nat), (∀ b o, s.heap.get? b = some o → h'.get? b = some o) → EP X pins σ Q (.str d.shown t) { s with heap := h', toks := k } := fun h' t k hk => ⟨.str _, H, I.kept hk, ⟨_, rfl⟩, q⟩
  obtain ⟨as, rd, hsm⟩ := Im.reads I hi hz.no rfl
  have := hz.dp
  exact repr_of_reads' rd hz.sw (fun _ => hsm) hA (by omega) (fun _ _ e => e) (fun h' u tk hk => fin h' u tk hk) hz.ln
theorem call_reprZ {X : Cx} (hA : X.A.guards = some []) (hu : X.A.units + 64 < cLine) : CallR X (.builtin "repr") (rShowZ X.K) := (call_reprR hA hu).or (call_reprZ0 hA hu)
def fRepZ : FA := fun ss st Q => match ss with
  | [s] => match vw st s with
    | some d => (RepOk d ∨ (RepZ d ∧ s = .d d)) ∧ Q (.d (.str d.shown)) st
    | none => False
  | _ => False
theorem cd_repZ {K : Frag} : CallD K (rShowZ K) fRepZ := by
  intro Z vs ss Qd Q ok ra w k
  unfold fRepZ at w
  split at w
  · rename_i s
    split at w
    · rename_i d e
      rcases w.1 with ho | ⟨hz, rfl⟩
      · refine .inl (cd_rep Z vs [s] Qd Q ok ra ?_ k)
        unfold fRep
        dsimp only
        rw [e]
        exact ⟨ho, w.2⟩
      · obtain ⟨v, rfl, r⟩ := rp1 ra
        have i : Im K Z.W Z.H v d := r
        by_cases hd : ∃ a, v = .ref a
        · obtain ⟨a, rfl⟩ := hd
          exact .inr ⟨a, d, _, rfl, i, hz, k.now ok (.str _) w.2⟩
        · refine .inl (.inl ?_)
          cases i with
          | lst _ _ _ => exact absurd ⟨_, rfl⟩ hd
          | tup _ _ => exact absurd ⟨_, rfl⟩ hd
          | dct _ _ _ => exact absurd ⟨_, rfl⟩ hd
          | dcl _ _ _ => exact absurd ⟨_, rfl⟩ hd
          | dcT _ _ _ => exact absurd ⟨_, rfl⟩ hd
          | exc _ _ _ _ _ _ => exact absurd ⟨_, rfl⟩ hd
          | dcN _ _ _ => exact absurd ⟨_, rfl⟩ hd
          | non => exact ⟨_, _, rfl, .non, hz.sw, rfl, hz.dp, hz.ln, k.now ok (.str _) w.2⟩
          | bl b => exact ⟨_, _, rfl, .bl b, hz.sw, rfl, hz.dp, hz.ln, k.now ok (.str _) w.2⟩
          | int b => exact ⟨_, _, rfl, .int b, hz.sw, rfl, hz.dp, hz.ln, k.now ok (.str _) w.2⟩
          | str b => exact ⟨_, _, rfl, .str b, hz.sw, rfl, hz.dp, hz.ln, k.now ok (.str _) w.2⟩
    · exact w.elim
  · exact w.elim
end Pz
set_option maxRecDepth 100000
namespace Pz
open PySem PySem.Spec PyProof.Rows L2 TL PySem.W
variable [PenC]
section
variable {prog : Program} {w : World} {A : Around} {E : Value → Shared → Prop} {s : Shared} {z : Str} {t : Tok}
theorem kds_hint {Q : Bool → Shared → Prop} (h : Q false s) : wpAny (model prog w) A (Builtin.List.listLengthHint (.str z t)) Q E s := by
  have hT : s.TypeIs (.str z t) "str" := typeIs_str s z t
  unfold Builtin.List.listLengthHint
  refine wpAny_bind (wpAny_specialOf hT PySem.F.slot_str_len.lookup ?_)
  generalize hid : ("str.__len__" : String) = id0
  wp_delta
  rw [show splitId id0 = some ("str", "__len__") from by subst hid; decide +kernel]
  subst hid
  refine wpAny_bind (wpAny_isInstance (T := "str") (b := true) hT (by rw [isSubtype_type]; kernel_rfl) ?_)
  refine wpAny_ite_split (fun hab => absurd hab (by decide)) (fun _ => ?_)
  refine wpAny_ite_split (fun _ => ?_) (fun hab => absurd (by decide +kernel) hab)
  refine wpAny_bind (wpAny_typeOf hT ?_)
  exact wpAny_pure h
theorem kds_extend {R : Result → Shared → Prop} (hh : A.handled = none) (S : Addr) (res : Value) (c₀ : Nat) (hS : s.heap.get? S = some { cls := .type "list", data := .seq #[] c₀ })
    (hR : ∀ h' tk acc' c', (∀ b o, b ≠ S → s.heap.get? b = some o → h'.get? b = some o) → h'.get? S = some { cls := .type "list", dict := none, data := .seq acc' c', slots := #[] } → ItemsOf (SignAt z) acc' z.cps.size → R (.ok (.ret res)) { s with heap := h', toks := tk }) (hn : z.cps.size ≤ sizeLine) :
    wpAny (model prog w) A.in1 (Builtin.List.listExtendWith (.ref S) (.str z t) res)
      (fun fin s' => match fin with | .done f => R (.ok f) s' | .again c' => c'.quiet = true ∧ codeAny (model prog w) A c' R s') (fun e s' => R (.error e) s') s := by
  have hSI : S ≠ s.heap.objs.size := Nat.ne_of_lt (Heap.lt_size hS)
  have hSf : S ∉ [s.heap.objs.size] := by simp only [List.mem_cons, List.not_mem_nil, or_false]; exact hSI
  unfold Builtin.List.listExtendWith
  refine wpAny_bind (wpAny_typeOf (T := "str") (typeIs_str s z t) ?_)
  have h1 : Builtin.List.listSameRef (.ref S) (.str z t) = false := rfl
  have h2 : (Value.type "str" == Value.type "list") = false := by decide
  have h3 : (Value.type "str" == Value.type "tuple") = false := by decide
  simp only [h1, h2, h3, Bool.or_false, Bool.false_eq_true, if_false]
  refine wpAny_bind (wpAny_pyIter_str fun oI St W st => ?_)
  have hS₁ := Heap.get?_push_of_some oI hS
  refine wpAny_bind (wpAny_holding (kds_hint ?_))
  refine wpAny_ite_split (fun hab => absurd hab (by decide)) (fun _ => wpAny_pure ⟨plainId_quiet PySem.F.plain_extend_loop _, ?_⟩)
  refine codeAny_extend_loopS (W A.in1 hh).toS hn S hSf res z.cps.size 0 _ #[] c₀ rfl (Nat.zero_le _) st hS₁ (ItemsOf.nil _) fun s' acc' c' hm hS' hacc => ?_
  rw [Moved.eq_with hm]
  refine hR s'.heap s'.toks acc' c' (fun b o hb e => hm.heap b o (fun hmem => ?_) (Heap.get?_push_of_some _ e)) hS' hacc
  rcases List.mem_cons.mp hmem with e' | hmem
  · exact hb e'
  · exact absurd (Heap.lt_size e) (by rw [List.mem_singleton.mp hmem]; exact Nat.lt_irrefl _)
theorem kds_init {R : Result → Shared → Prop} (hh : A.handled = none) (S : Addr) (hS : s.heap.get? S = some { cls := .type "list", data := .seq #[] })
    (hR : ∀ h' tk acc' c', (∀ b o, b ≠ S → s.heap.get? b = some o → h'.get? b = some o) → h'.get? S = some { cls := .type "list", dict := none, data := .seq acc' c', slots := #[] } → ItemsOf (SignAt z) acc' z.cps.size → R (.ok (.ret .none)) { s with heap := h', toks := tk }) (hn : z.cps.size ≤ sizeLine) :
    wpAny (model prog w) A.in1 (Builtin.«list.__init__» ⟨[.ref S, .str z t], []⟩)
      (fun fin s' => match fin with | .done f => R (.ok f) s' | .again c' => c'.quiet = true ∧ codeAny (model prog w) A c' R s') (fun e s' => R (.error e) s') s := by
  show wpAny _ _ (do let old ← Builtin.List.listItems (.ref S); Builtin.List.listUpdate (.ref S) (fun _ => #[]); letGo old.toList.reverse; Builtin.List.listExtendWith (.ref S) (.str z t) .none) _ _ s
  refine wpAny_bind ?_
  unfold Builtin.List.listItems
  refine wpAny_bind (wpAny_seqItems hS rfl (wpAny_pure ?_))
  show wpAny _ _ (updateSeq S (fun _ => #[]) >>= fun _ => letGo (#[] : Array Value).toList.reverse >>= fun _ => Builtin.List.listExtendWith (.ref S) (.str z t) .none) _ _ s
  refine wpAny_bind (wpAny_updateSeq hS rfl ?_)
  have hS₂ := Heap.get?_update_self (Obj.mapSeq (fun _ => (#[] : Array Value))) hS rfl
  have oth : ∀ b o, b ≠ S → s.heap.get? b = some o → (s.heap.update S (Obj.mapSeq (fun _ => (#[] : Array Value)))).get? b = some o :=
    fun b o hb e => (Heap.get?_update_other _ _ (Ne.symm hb)).trans e
  refine wpAny_bind (wpAny_letGo ?_)
  refine kds_extend hh S .none _ hS₂ (fun h' tk acc' c' hk hS' hacc => ?_) hn
  exact hR h' tk acc' c' (fun b o hb e => hk b o hb (oth b o hb e)) hS' hacc
theorem kds_call {Q : Value → Shared → Prop} (hh : A.handled = none) (hn : z.cps.size ≤ sizeLine)
    (hQ : ∀ h' tk acc' c', (∀ b o, s.heap.get? b = some o → h'.get? b = some o) → h'.get? s.heap.objs.size = some { cls := .type "list", dict := none, data := .seq acc' c', slots := #[] } → ItemsOf (SignAt z) acc' z.cps.size → Q (.ref s.heap.objs.size) { s with heap := h', toks := tk }) :
    wpAny (model prog w) A (call (.type "list") [.str z t]) Q E s := by
  refine callType_codes (Q₁ := fun obj s₁ => obj = .ref s.heap.objs.size ∧ s₁ = { s with heap := s.heap.push { cls := .type "list", data := .seq #[] } }) PySem.F.called_list (PySem.F.typeCall_list_1 _) PySem.F.entry_list_init
    (code_list_new _ ⟨rfl, rfl⟩) fun obj s₁ h₁ => ?_
  obtain ⟨rfl, rfl⟩ := h₁
  have hS : (s.heap.push { cls := .type "list", data := .seq #[] }).get? s.heap.objs.size = some { cls := .type "list", data := .seq #[] } := Heap.get?_push_size _ rfl
  refine ⟨⟨_, hS, rfl⟩, PySem.F.args_list_init_2 _ _, kds_init (A := A.in1) hh _ hS (fun h' tk acc' c' hk hS' hacc => ?_) hn⟩
  exact ⟨rfl, hQ h' tk acc' c' (fun b o e => hk b o (Nat.ne_of_lt (Heap.lt_size e)) (Heap.get?_push_of_some _ e)) hS' hacc⟩
end
section
variable {X : Cx} {K : Frag}
def sgV (z : Str) : List V := (tl z).map fun c => .str ⟨#[c]⟩
def rListS : List V → Hp → VK → Prop := fun xs H Q => ∃ z, xs = [V.str z] ∧ z.length ≤ sizeLine ∧ ∀ l, H l = none → Q (.ref l) (upd H l (.lst (sgV z)))
theorem call_list_str (hc : X.calm = true) : CallR X (.type "list") rListS := by
  intro pins s σ H xs us Q I r h
  obtain ⟨z, rfl, hz, q⟩ := h
  obtain ⟨u, rfl, rx⟩ := vals1 r
  obtain ⟨t, rfl⟩ := rx
  have hz2 : z.cps.size ≤ sizeLine := hz
  refine kds_call (I.ok.hd hc) hz2 fun h' tk acc c' hk hD hacc => ?_
  have hl : (sgV z).length = z.cps.size := by simp [sgV, tl]
  have hv : Vals (sgV z) acc.toList := by
    have go : ∀ (vs : List V) (us : List Value), us.length = vs.length → (∀ (j : Nat) (u : Value), us[j]? = some u → ∃ v, vs[j]? = some v ∧ RelV v u) → Vals vs us := by
      intro vs
      induction vs with
      | nil => intro us hl _; cases us with | nil => exact .nil | cons _ _ => simp at hl
      | cons v vs ih =>
        intro us hl hj
        cases us with
        | nil => simp at hl
        | cons u us =>
          obtain ⟨v', e, r⟩ := hj 0 u rfl
          simp at e
          subst e
          exact .cons r (ih us (by simpa using hl) fun j u e => hj (j + 1) u (by simpa using e))
    refine go _ _ (by rw [hl, Array.length_toList]; exact hacc.1) fun j u e => ?_
    obtain ⟨c, t', e1, rfl⟩ := hacc.2 j u (by rw [← Array.getElem?_toList]; exact e)
    refine ⟨.str ⟨#[c]⟩, ?_, ⟨t', rfl⟩⟩
    rw [sgV, List.getElem?_map]
    have : (tl z)[j]? = some c := by rw [← e1]; simp [tl]
    rw [this]; rfl
  refine ⟨.ref s.heap.objs.size, upd H s.heap.objs.size (.lst (sgV z)), I.laid (t' := tk) hk (Nat.le_refl _)
    (show ObjOk X.prog X.w _ _ _ (.lst (sgV z)) from ⟨by rw [hl]; exact hz2, acc.toList, c', hv, by rw [Array.toArray_toList]; exact hD⟩), rfl, q _ (I.hok.fresh (Nat.le_refl _))⟩
end
section
variable {K : Frag}
def rListE (K : Frag) : List V → Hp → VK → Prop := fun xs H Q => (∃ p ys, xs = [.ref p] ∧ (SqL K H p ys ∨ SqT K H p ys) ∧ ∀ l, H l = none → Q (.ref l) (upd H l (.lst ys))) ∨ rListS xs H Q
theorem call_listE {X : Cx} (hc : X.calm = true) : CallR X (.type "list") (rListE X.K) := call_list_of.or (call_list_str hc)
def fListE : FA := fun ss st Q => match ss with
  | [s] => match vw st s with
    | some (.list ds) => Q (.d (.list ds)) st
    | some (.tuple ds) => Q (.d (.list ds)) st
    | some (.str z) => z.length ≤ 16777216 ∧ Q (.d (.list (signs z))) st
    | _ => False
  | _ => False
def fListEO : FA := fun ss st Q => match ss with
  | [s] => match vw st s with
    | some (.list ds) => Q (.o st.length) (st ++ [.lst ds])
    | some (.tuple ds) => Q (.o st.length) (st ++ [.lst ds])
    | some (.str z) => z.length ≤ 16777216 ∧ Q (.o st.length) (st ++ [.lst (signs z)])
    | _ => False
  | _ => False
theorem signs_im {W : Addr → Prop} {H : Hp} (z : Str) : ImAll K W H (sgV z) (signs z) := by
  unfold sgV signs
  induction tl z with
  | nil => exact .nil
  | cons c l ih => exact .cons (.str _) ih
theorem rp_strV {Z : Zs} {v : V} {s : Sl} {z : Str} (r : Rp K Z v s) (e : vw Z.st s = some (.str z)) : v = .str z := by
  have i := r.data e fun ds h => by cases h
  cases i
  rfl
theorem cd_listE : CallD K (rListE K) fListE := by
  intro Z vs ss Qd Q ok ra w k
  unfold fListE at w
  split at w
  · obtain ⟨v, rfl, r⟩ := rp1 ra
    split at w
    · rename_i ds e
      obtain ⟨a, xs, rfl, h, q⟩ := r.list ok e
      exact .inl ⟨a, xs, rfl, .inl (.of h), k.newL ok q w⟩
    · rename_i ds e
      obtain ⟨a, xs, rfl, h, q⟩ := r.tuple e
      exact .inl ⟨a, xs, rfl, .inr h.sq, k.newL ok q w⟩
    · rename_i z e
      obtain rfl := rp_strV r e
      exact .inr ⟨z, rfl, w.1, fun l n => k.newL ok (signs_im z) w.2 l n⟩
    · exact w.elim
  · exact w.elim
end
end Pz
set_option maxRecDepth 100000
namespace Pz
open PySem PySem.Spec PyProof.Rows L2 TL
variable [PenC]
section
variable {X : Cx} {E : WXs} {pos : Pos} {K : Frag}
abbrev Zs.cut (Z : Zs) (n : Nat) : Zs := Zs.mk (Z.φ.take n) (Z.st.take n) Z.H Z.F
def kvD (kvs : KD) : List (PyData × PyData) := kvs.map fun kv => (keyD kv.1, kv.2)
def wDispD (r : DP) : DE := fun Ed sl st Q => r Ed sl (st ++ [.dK []]) fun kvs st2 => st2[st.length]? = some (.dK []) ∧ kvs.length ≤ 15 ∧ (∀ c ∈ st2.take st.length, Cl st.length c) ∧ Q (.d (.dict (kvD (mergeD [] kvs)))) (st2.take st.length)
theorem wDispD_ap {r : DP} {Ed : DX} {sl : Sls} {st : Sto} {Q : DK} : wDispD r Ed sl st Q = (r Ed sl (st ++ [.dK []]) fun kvs st2 => st2[st.length]? = some (.dK []) ∧ kvs.length ≤ 15 ∧ (∀ c ∈ st2.take st.length, Cl st.length c) ∧ Q (.d (.dict (kvD (mergeD [] kvs)))) (st2.take st.length)) := rfl
theorem mergeD1 {k : Key} {d : PyData} : mergeD [] [(k, d)] = [(k, d)] := rfl
theorem kvD1 {k : Key} {d : PyData} : kvD [(k, d)] = [(keyD k, d)] := rfl
theorem keyD_s {x : Str} : keyD (.inr x) = .str x := rfl
theorem keyD_i {x : Int} : keyD (.inl x) = .int x := rfl
end
end Pz
set_option maxRecDepth 100000
namespace Pz
open PySem PySem.Spec PyProof.Rows L2 TL PySem.W
variable [PenC]
mutual
theorem nodict_alike : ∀ {d : PyData}, alike d d = true → d.hasDict = false
  | .none, _ => rfl
  | .bool _, _ => rfl
  | .int _, _ => rfl
  | .str _, _ => rfl
  | .list xs, h => by rw [PyData.hasDict]; exact nodict_alikeAll (by simpa [alike] using h)
  | .tuple xs, h => by rw [PyData.hasDict]; exact nodict_alikeAll (by simpa [alike] using h)
  | .dict _, h => by simp [alike] at h
theorem nodict_alikeAll : ∀ {ds : List PyData}, alikeAll ds ds = true → PyData.hasDictAll ds = false
  | [], _ => rfl
  | x :: xs, h => by
    rw [alikeAll, Bool.and_eq_true] at h
    rw [PyData.hasDictAll, nodict_alike h.1, nodict_alikeAll h.2]
    rfl
end
abbrev dsort (ds : List PyData) : List PyData := ds.mergeSort (dataLe false id)
section
variable {X : Cx} {K : Frag}
def rSortedG (K : Frag) : List V → Hp → VK → Prop := fun xs H Q => ∃ (a : Addr) (vs : List V) (ds : List PyData) (W : Addr → Prop), xs = [.ref a] ∧ SqL K H a vs ∧ ImAll K W H vs ds ∧ AllAlike ds ∧ Sortable ds ∧ (∀ d ∈ ds, d.depth ≤ 50) ∧
  ∀ (ws : List V) (p : Addr), ImAll K W H ws (dsort ds) → H p = none → Q (.ref p) (upd H p (.lst ws))
end
def fSortedG : FA := fun ss st Q => match ss with
  | [s] => match vw st s with
    | some (.list ds) => AllAlike ds ∧ Sortable ds ∧ (∀ d ∈ ds, d.depth ≤ 50) ∧ Q (.d (.list (dsort ds))) st
    | _ => False
  | _ => False
end Pz
set_option maxRecDepth 100000
namespace Pz
open PySem PySem.Spec PyProof.Rows L2 TL PySem.W
variable [PenC]
abbrev lsort (zs : List Str) : List Str := zs.mergeSort fun a b => decide ((a.length : Int) ≤ (b.length : Int))
def rSortLen (K : Frag) : List V → Hp → VK → Prop := fun vs H Q => ∃ (a : Addr) (zs : List Str), vs = [V.ref a] ∧ SqL K H a (zs.map V.str) ∧ (∀ z ∈ zs, z.length ≤ sizeLine) ∧ ∀ p, H p = none → Q (.ref p) (upd H p (.lst ((lsort zs).map V.str)))
section
variable {X : Cx} {E : WXs} {e : Expr} {te : DE} {x : Str} {p p2 pos kp : Pos} {K : Frag} {t : TA}
def wSortLen (te : DE) : DE := fun Ed sl st Q => te Ed sl st fun s st => match vw st s with
  | some (.list ds) => ∃ zs, asStrs ds = some zs ∧ (∀ z ∈ zs, z.length ≤ 16777216) ∧ Q (.d (.list ((lsort zs).map .str))) st
  | _ => False
theorem wSortLen_ap {Ed : DX} {sl : Sls} {st : Sto} {Q : DK} : wSortLen te Ed sl st Q = (te Ed sl st fun s st => match vw st s with
  | some (.list ds) => ∃ zs, asStrs ds = some zs ∧ (∀ z ∈ zs, z.length ≤ 16777216) ∧ Q (.d (.list ((lsort zs).map .str))) st
  | _ => False) := rfl
end
end Pz
set_option maxRecDepth 100000
namespace Pz
open PySem PySem.Spec PyProof.Rows L2 TL
variable [PenC]
def KwDs (K : Frag) (w : World) (a : Addr) (kvs : List (Str × V)) : Prop := ∃ es n, K.lookup a = some ⟨.type "dict", none, .dict es n, #[]⟩ ∧ PySem.W.KeysLit w.params es.toList ∧ (a == sysModules) = false ∧
  Paired (fun (p : Str × V) (e : DictEntry) => (∃ t, e.key = .str p.1 t) ∧ RelV p.2 e.val) kvs es.toList
section
variable {X : Cx} {E : WXs} {x : Str} {p apos cpos : Pos} {e f : Expr} {ty tx : TE} {a : Addr} {kvs : List (Str × V)}
end
section
variable {X : Cx} {E : WXs} {x : Str} {p apos cpos : Pos} {e f : Expr} {ty tx : DE} {a : Addr} {kvs : List (Str × V)} {K : Frag}
def dV : V → PyData
  | .int i => .int i
  | .str z => .str z
  | .bl b => .bool b
  | _ => .none
def flV : V → Bool
  | .int _ | .str _ | .bl _ | .non => true
  | _ => false
def wGGet (kvs : List (Str × V)) (ty tx : DE) : DE := fun Ed sl st Q => ty Ed sl st fun t st => tx Ed sl st fun u st => match vw st t with
  | some (.str z) => match kvs.lookup z with
    | some v => Q (.d (dV v)) st
    | none => Q u st
  | _ => False
theorem wGGet_ap {Ed : DX} {sl : Sls} {st : Sto} {Q : DK} : wGGet kvs ty tx Ed sl st Q = (ty Ed sl st fun t st => tx Ed sl st fun u st => match vw st t with
  | some (.str z) => match kvs.lookup z with
    | some v => Q (.d (dV v)) st
    | none => Q u st
  | _ => False) := rfl
end
end Pz
set_option maxRecDepth 100000
namespace Pz
open PySem PySem.Spec PyProof.Rows L2 TL
variable [PenC]
def rMinDf (K : Frag) : List V → List V → Hp → VK → Prop := fun vs zs H Q => ∃ (a : Addr) (ns : List Int) (d : V), vs = [V.ref a] ∧ zs = [d] ∧ (SqL K H a (ns.map V.int) ∨ SqT K H a (ns.map V.int)) ∧ if ns = [] then Q d H else Q (.int (lmin ns)) H
section
variable {X : Cx} {E : WXs} {e f : Expr} {te tx : DE} {x : Str} {p pos kp : Pos} {K : Frag}
def wMinDf (te tx : DE) : DE := fun Ed sl st Q => te Ed sl st fun s st => tx Ed sl st fun u st => ∃ ns, vwJ st s = some ns ∧ if ns = [] then Q u st else Q (.d (.int (lmin ns))) st
theorem wMinDf_ap {Ed : DX} {sl : Sls} {st : Sto} {Q : DK} : wMinDf te tx Ed sl st Q = (te Ed sl st fun s st => tx Ed sl st fun u st => ∃ ns, vwJ st s = some ns ∧ if ns = [] then Q u st else Q (.d (.int (lmin ns))) st) := rfl
end
end Pz
set_option maxRecDepth 100000
namespace Pz
open PySem PySem.Spec PyProof.Rows L2 TL
variable [PenC]
section
variable {X : Cx} {E : WXs} {Z0 : Zs} {a b : Expr} {t : DA} {pos px py pt pt2 : Pos} {x y : Str} {kt k2 : Nat}
def wPar (i j : Nat) (t : DA) : DS := fun D sl st => t D.ex sl st fun ss st => match ss with
  | [a, b] => D.nx ((sl.set i (some a)).set j (some b)) st
  | _ => False
theorem wPar_ap {i j : Nat} {nx bk ct : Sls → Sto → Prop} {rt : DK} {ex : DX} {sl : Sls} {st : Sto} : wPar i j t ⟨nx, rt, ex, bk, ct⟩ sl st = t ex sl st fun ss st => match ss with
  | [a, b] => nx ((sl.set i (some a)).set j (some b)) st
  | _ => False := rfl
end
end Pz
set_option maxRecDepth 100000
namespace Pz
open PySem PySem.Spec PyProof.Rows L2 TL
variable [PenC]
def rShowW (K : Frag) : List V → Hp → VK → Prop := fun xs H Q => rShow K xs H Q ∨ ∃ (a : Addr) (ds : List PyData) (W : Addr → Prop), xs = [.ref a] ∧ Im K W H (.ref a) (.list ds) ∧ (∀ d ∈ ds, itOk d) ∧ (PyData.list ds).depth ≤ 60 ∧ (PyData.list ds).shown.length ≤ sizeLine ∧ Q (.str (PyData.list ds).shown) H
structure RepW (ds : List PyData) : Prop where
  ok : ∀ d ∈ ds, itOk d
  st : PyData.strOk (PyData.list ds).shown = true
  ln : (PyData.list ds).shown.length ≤ sizeLine
  dp : (PyData.list ds).depth ≤ 60
def RepA (d : PyData) : Prop := RepOk d ∨ ∃ ds, d = .list ds ∧ RepW ds
theorem RepA.sh {d : PyData} (h : RepA d) : SeqAt.shaped (.str d.shown) = true := by
  rcases h with h | ⟨ds, rfl, h⟩
  · exact h.sh
  · exact sh_str h.st
def fRepW : FA := fun ss st Q => match ss with
  | [.d d] => RepA d ∧ Q (.d (.str d.shown)) st
  | _ => False
section
variable {K : Frag}
def fBool : FA := fun ss st Q => match ss with
  | [s] => match vw st s with
    | some (.int i) => Q (.d (.bool (i != 0))) st
    | some (.bool b) => Q (.d (.bool b)) st
    | _ => False
  | _ => False
end
end Pz
set_option maxRecDepth 100000
namespace Pz
open PySem PySem.Spec PyProof.Rows L2 TL
variable [PenC]
def ItW (w : Nat) (d : PyData) : Prop := RepP w 10 d ∨ d = .dict []
theorem ItW.len {w : Nat} {d : PyData} (h : ItW w d) (hw : 2 ≤ w) : d.shown.length ≤ w ∧ PyData.strOk d.shown = true ∧ d.depth ≤ 10 ∧ itOk d := by
  rcases h with h | rfl
  · exact ⟨Nat.le_trans (shown_wt h.ok) h.wt, strOk_shown h.ok, h.dp, .inl h.ok⟩
  · rw [shown_dn]
    exact ⟨by rw [len_lit, show "{}".length = 2 by decide +kernel]; exact hw, strOk_lit, by decide +kernel, .inr rfl⟩
end Pz
set_option maxRecDepth 100000
namespace Pz
open PySem PySem.Spec PyProof.Rows L2 TL
variable [PenC]
section
variable {K : Frag}
def mSplitO : FM := fun s ss st Q => match ss with
  | [t] => match vw st s, vw st t with
    | some (.str a), some (.str b) => b.length ≠ 0 ∧ a.length + 2 ≤ sizeLine ∧ Q (.o st.length) (st ++ [.lst ((Txt.split a b).map .str)])
    | _, _ => False
  | _ => False
end
end Pz
set_option maxRecDepth 100000
set_option maxHeartbeats 2000000
namespace Lz
open PySem PySem.Spec PyProof.Rows L2 LamX
abbrev lamQ (X : Cx) : Str := X.env.qual ++ "<lambda>"
section
variable {X : Cx} {pins : List (Addr × Obj)} {σ : L2.St} {H : Hp} {s : Shared}
def Grown (H H1 : Hp) (P c : Addr) (q : Str) : Prop := H1 = H ∨ ∃ (ps : Array Value) (pos : Pos), H P = some (.tbl ps) ∧ TriplesOk ps.toList ∧ H c = none ∧ H1 = upd (upd H P (.tbl (ps ++ #[rawInt pos.line, rawInt pos.col, .ref c]))) c (CodeO c q)
theorem make {T : List (Addr × Str)} {c P : Addr} {params : Arguments} {body : Expr} {scope : Scope} {pos : Pos} {E Q : Value → Shared → Prop} (J : Inv X pins σ H s) (B : TabB X.base X.mg c P) (ec : X.env.code = .ref c)
    (inT : (P, lamQ X) ∈ T) (one : ∀ p ∈ T, p.1 = P → p.2 = lamQ X) (tabs : Tabs T H) (nodef : defaultsOf params X.env = ([], [])) (caps : ∀ y ∈ scope.names, y.2 = .free → ∃ z, X.env.cells.lookup y.1 = some z)
    (fin : ∀ (f d : Addr) (pm ct : Value) (H1 : Hp) (s1 : Shared), Inv X pins σ H1 s1 → Grown H H1 P d (lamQ X) → Tabs T H1 →
      s1.heap.get? f = some (PySem.W.kla_obj "<lambda>" (lamQ X) params body scope (cloFrom X.env.cells scope.names []) pm d ct) → H1 f = none → f ∉ frs X.stack → H1 d = some (CodeO d (lamQ X)) → (H d = none ∨ ∃ ps pos, H P = some (.tbl ps) ∧ codeAmong pos ps.toList = some (.ref d)) → Q (.ref f) s1) :
    wpAny (model X.prog X.w) X.A (eval (.Lambda params body scope pos) X.env) Q E s := by
  obtain ⟨ps, eP, tr, old⟩ := tabs _ inT
  dsimp only at eP old
  have bm := B.bm.keeps J.bk
  have hP : s.heap.get? P = some { cls := .none, data := .fields ps } := J.hok P _ eP
  have away : ∀ f, s.heap.objs.size ≤ f → f ∉ frs X.stack := fun f le m => by
    rcases List.mem_cons.mp (J.stkSub _ m) with e | e
    · have := J.lt
      rw [← e] at this
      exact Nat.not_lt.mpr le this
    · exact J.nofs le e
  apply PySem.W.kla_eval nodef
  cases at? : codeAmong pos ps.toList with
  | some cv =>
    obtain ⟨d, rfl, hd⟩ := old pos cv at?
    apply PySem.W.kla_makeFunctionHit (mg := X.mg) (c := c) (P := P) (ps := ps) (closure_ok caps) J.ok.glob (J.mod.glob.keeps J.bk) ec (B.code.keeps J.bk) hP tr at? bm
    intro ct h2 tk ext hsz
    refine fin h2.objs.size d ((X.mg "__name__").getD .none) ct H _ (J.kept fun b o e => Heap.get?_push_of_some _ (ext b o e)) (.inl rfl) tabs (Heap.get?_push_size _ rfl) (J.hok.fresh hsz) (away _ hsz) hd (.inr ⟨ps, pos, eP, at?⟩)
  | none =>
    apply PySem.W.kla_makeFunction (mg := X.mg) (c := c) (P := P) (ps := ps) (closure_ok caps) J.ok.glob (J.mod.glob.keeps J.bk) ec (B.code.keeps J.bk) hP tr at? B.gP bm
    rintro d ct h2 tk ext hge hlt ⟨d2, oc, vs, t, ed, q1, q2, q3⟩ htb
    cases ed
    have nd : H d = none := J.hok.fresh hge
    have big : s.heap.objs.size ≤ h2.objs.size := by omega
    have dP : P ≠ d := ne_of_none eP nd
    have J1 := inv_table (t' := tk) (more := #[rawInt pos.line, rawInt pos.col, .ref d]) (h' := h2.push (PySem.W.kla_obj "<lambda>" (lamQ X) params body scope (cloFrom X.env.cells scope.names []) ((X.mg "__name__").getD .none) d ct)) J eP
      (fun b o hb e => Heap.get?_push_of_some _ (ext b o hb e)) (Heap.get?_push_of_some _ htb) hge ⟨oc, vs, t, Heap.get?_push_of_some _ q1, q2, q3⟩
    have more : (ps ++ #[rawInt pos.line, rawInt pos.col, .ref d]).toList = ps.toList ++ [rawInt pos.line, rawInt pos.col, .ref d] := by simp
    have keep : ∀ z q, H z = some (CodeO z q) → upd (upd H P (.tbl (ps ++ #[rawInt pos.line, rawInt pos.col, .ref d]))) d (CodeO d (lamQ X)) z = some (CodeO z q) := fun z q e => by
      have zP : z ≠ P := fun y => by
        rw [y, eP] at e
        exact codeO_ne ps (Option.some.inj e).symm
      rw [upd_ne (ne_of_none e nd), upd_ne zP]
      exact e
    refine fin h2.objs.size d ((X.mg "__name__").getD .none) ct _ _ J1 (.inr ⟨ps, pos, eP, tr, nd, rfl⟩) (fun p hp => ?_) (Heap.get?_push_size _ rfl) ?_ (away _ big) upd_same (.inl nd)
    · obtain ⟨us, a1, a2, a3⟩ := tabs p hp
      by_cases hb : p.1 = P
      · rw [hb, eP] at a1
        cases a1
        rw [one p hp hb, hb]
        refine ⟨_, by rw [upd_ne dP, upd_same], by rw [more]; exact PySem.TriplesOk_snoc _ _ _ _ tr, fun p' cv hc => ?_⟩
        rw [more] at hc
        rcases among_app _ tr hc with z | z
        · obtain ⟨e0, r1, r2⟩ := old p' cv z
          exact ⟨e0, r1, keep _ _ r2⟩
        · exact ⟨d, z, upd_same⟩
      · refine ⟨us, by rw [upd_ne (ne_of_none a1 nd), upd_ne hb]; exact a1, a2, fun p' cv hc => ?_⟩
        obtain ⟨e0, r1, r2⟩ := a3 p' cv hc
        exact ⟨e0, r1, keep _ _ r2⟩
    · have m1 : h2.objs.size ≠ d := by omega
      have m2 : h2.objs.size ≠ P := Nat.ne_of_gt (Nat.lt_of_lt_of_le (Heap.lt_size hP) big)
      rw [upd_ne m1, upd_ne m2]
      exact J.hok.fresh big
end
end Lz
set_option maxRecDepth 100000
set_option maxHeartbeats 2000000
namespace Pz
open PySem PySem.Spec PyProof.Rows L2 TL Lz
variable [PenC]
abbrev LAct := (Str → List (Str × PyData) → Prop) → (PyData → Prop) → Prop
def LAct.Mono (A : LAct) : Prop := ∀ e e' k k', (∀ c fs, e c fs → e' c fs) → (∀ d, k d → k' d) → A e k → A e' k'
def wAct (i : Nat) (f : Addr) (W0 : Addr → Prop) (H0 : Hp) (A : LAct) : DE := fun Ed sl st Q => nthS sl i = some (.l f W0 H0) ∧ A (fun c fs => Ed c fs sl st) fun d => Q (.d d) st
theorem wAct_ap {i : Nat} {f : Addr} {W0 : Addr → Prop} {H0 : Hp} {A : LAct} {Ed : DX} {sl : Sls} {st : Sto} {Q : DK} : wAct i f W0 H0 A Ed sl st Q = (nthS sl i = some (.l f W0 H0) ∧ A (fun c fs => Ed c fs sl st) fun d => Q (.d d) st) := rfl
structure Acts (X : Cx) (a : Str) (f : Addr) (W0 : Addr → Prop) (H0 : Hp) (A : LAct) : Prop where
  run : ∀ (W : WXs) (pn : List (Addr × Obj)) (xe : Value → Shared → Prop) (p1 p2 : Pos), Takes (X.tr pn xe) W → DEx (X.tr pn xe) W (.Call (.Name a p1) [] [] p2) (wAct 0 f W0 H0 A)
def LamAt (base : Heap) (mg : Str → Option Value) (c : Addr) (q : Str) : Prop := ∃ P, LamX.TabB base mg c P ∧ (P, q) ∈ TabC.T ∧ ∀ p ∈ TabC.T, p.1 = P → p.2 = q
def HeardD (P : Program) (w : World) (K : Frag) (mg : Str → Option Value) (base : Heap) (k : Nat) (g : Addr) (x : Str) (st : Stmt) (N : List Str) (a : Str) (Φ : LAct → (PyData → Prop) → Prop) : Prop :=
  ∀ (cdv : Value) (A : Around) (outer : List Env) (s : Shared) (H : Hp) (E : XK) (Z0 : Zs) (f : Addr) (W0 : Addr → Prop) (H0 : Hp) (Ar : LAct), A.guards = some [] → Room k (A.deeper (envOfC x (defScope st) s.heap.objs.size g cdv)) → Z0.st.length = 0 → Ar.Mono →
    Acts (cxOf CX0 P w K mg base N x (defScope st) g cdv A outer s H E).nox a f W0 H0 Ar →
    ∃ τ : DS, DSs (cxOf CX0 P w K mg base N x (defScope st) g cdv A outer s H E).nox W0s Z0 (defBody st) τ ∧ ∀ Qd : DK, Φ Ar (fun d => Qd (.d d) []) → τ (endD 0 Qd) (startS N [.l f W0 H0]) []
where W0s : WXs := fun _ _ _ _ => False
def datO : Option Sl → Option Sl
  | some (.d x) => some (.d x)
  | some (.f ns) => some (.f ns)
  | _ => none
def datQ (k : PyData → Prop) : DK := fun s st => match s, st with
  | .d d, [] => k d
  | _, _ => False
theorem datQ_d {k : PyData → Prop} {d : PyData} : datQ k (.d d) [] = k d := rfl
def mkAct (τ : DE) (sl : Sls) : LAct := fun e k => ∃ (e0 : Str → List (Str × PyData) → Prop) (k0 : PyData → Prop), (∀ c fs, e0 c fs → e c fs) ∧ (∀ d, k0 d → k d) ∧ τ (fun c fs _ _ => e0 c fs) sl [] fun s st => Ret 0 s st (datQ k0)
def wLam (Φ : LAct → (PyData → Prop) → Prop) (τ : DE) : DE := fun Ed sl st Q => Φ (mkAct τ (sl.map datO)) fun d => Q (.d d) st
theorem wLam_ap {Φ : LAct → (PyData → Prop) → Prop} {τ : DE} {Ed : DX} {sl : Sls} {st : Sto} {Q : DK} : wLam Φ τ Ed sl st Q = Φ (mkAct τ (sl.map datO)) (fun d => Q (.d d) st) := rfl
theorem Stay.refl {W : Addr → Prop} {H : Hp} : Stay W W H H := Stay.less fun _ w => w
section
variable {K : Frag} {Z : Zs} {H1 : Hp} {P c : Addr} {q : Str}
end
section
variable {X : Cx} {E : WXs} {k : Nat} {x a : Str} {g c P : Addr} {fd : FuncData} {st : Stmt} {Ng : List Str} {Φ : LAct → (PyData → Prop) → Prop} {τ : DE} {params : Arguments} {body : Expr} {scope : Scope} {p lpos pos : Pos}
end
end Pz
set_option maxRecDepth 100000
set_option maxHeartbeats 2000000
namespace Pz
open PySem PySem.Spec PyProof.Rows L2 TL Lz
structure FunC (K : Frag) (x qual : Str) (st : Stmt) (f : Addr) (fd : FuncData) (c : Addr) : Prop where
  ex : ∃ (oc : Value) (od : Option Addr) (kV doc pm : Value) (an : Option Addr) (ct : Value) (osl : Array (Option Value)),
    fd = PySem.W.fnOf x qual (defArgs st) (defBody st) (defScope st) .none kV doc pm an (.ref c) ct ∧ K.lookup f = some ⟨oc, od, .func fd, osl⟩ ∧ PySem.W.codeIn K (.ref c) qual = true
  kp : PySem.W.keepIn K (.ref f) = true
theorem FunC.F {K : Frag} {x qual : Str} {st : Stmt} {f : Addr} {fd : FuncData} {c : Addr} (h : FunC K x qual st f fd c) : L2.Fun K x qual st f fd :=
  ⟨let ⟨oc, od, kV, doc, pm, an, ct, osl, r⟩ := h.ex; ⟨oc, od, kV, doc, pm, an, .ref c, ct, osl, r⟩, h.kp⟩
structure FAtC (K : Frag) (mg : Str → Option Value) (x : Str) (st : Stmt) (ps : List Str) (f : Addr) (fd : FuncData) (c : Addr) : Prop where
  C : FunC K x x st f fd c
  F : L2.Fun K x x st f fd
  g : mg x = some (.ref f)
  b : Binds K fd ps []
abbrev qLam (x : Str) : Str := x ++ ".<locals>." ++ "<lambda>"
section
variable [PenC]
variable {P : Program} {w : World} {K : Frag} {mg : Str → Option Value} {base : Heap} {CX : CXT} {j k : Nat} {f c : Addr} {fd : FuncData} {ps N : List Str} {sp sp' : Sp} {dsp : DSp} {x qual : Str} {st : Stmt}
end
def OnlyT (cs : List (Addr × Addr)) (H : Hp) : Prop := (∀ p ∈ cs, H p.2 = some (.tbl #[])) ∧ ∀ b, H b = none ∨ (∃ p ∈ cs, p.2 = b) ∨ ∃ o xs, H b = some (.frz o (.lst xs))
def tabIn (K : Frag) (c : Addr) : Option Addr := match K.lookup c with
  | some ⟨_, _, .fields vs, _⟩ => match (vs[11]? : Option Value) with
    | some (Value.ref P) => some P
    | _ => none
  | _ => none
def TabAtK (K : Frag) (mg : Str → Option Value) (q : Program) (p : Addr × Addr × Str) : Prop := tabIn K p.1 = some p.2.1 ∧ K.lookup p.2.1 = none ∧
  ∃ (x : Str) (f : Addr) (oc : Value) (od : Option Addr) (fd : FuncData) (osl : Array (Option Value)), (recsOf q).any (fun d => d.name == x) = true ∧ mg x = some (.ref f) ∧ K.lookup f = some ⟨oc, od, .func fd, osl⟩ ∧ fd.code = .ref p.1
theorem TabAtK.at {K : Frag} {mg mb : Str → Option Value} {q : Program} {loose : List Str} {mean : ExcName → Option Value} {h : Heap} {p : Addr × Addr × Str} (T : Top q loose mean mg mb h) (X : K.In h) (t : TabAtK K mg q p) : h.get? p.2.1 = some { cls := .none, data := .fields #[] } ∧ PySem.W.CodeHd h p.1 p.2.1 := by
  obtain ⟨h1, h2, x, f, oc, od, fd, osl, h3, h4, h5, h6⟩ := t
  obtain ⟨d, hd, hx⟩ := List.any_eq_true.mp h3
  obtain ⟨a, o, fd', c, P, e1, e2, e3, e4, e5, e6⟩ := T.tab d hd
  have hx : d.name = x := by simpa using hx
  rw [hx, h4] at e1
  cases e1
  have e7 := X _ _ h5
  rw [e2] at e7
  cases e7
  cases e3
  rw [h6] at e4
  cases e4
  have e6' := e6
  obtain ⟨⟨oo, vs, g1, g2, g3, g4⟩, g5⟩ := e6
  unfold tabIn at h1
  cases hl : K.lookup p.1 with
  | none => rw [hl] at h1; cases h1
  | some ob =>
    have e8 := X _ _ hl
    rw [g1] at e8
    cases e8
    rw [hl] at h1
    obtain ⟨oc1, od1, dt1, sl1⟩ := oo
    dsimp only at g3 h1
    subst g3
    dsimp only at h1
    rw [g4] at h1
    dsimp only at h1
    cases h1
    exact ⟨g5, PySem.W.CodeHd.of e5 e6'⟩
def LawAtT (P : Program) (w : World) (K : Frag) (CX : CXT) (k n : Nat) (x : Str) (mg : Str → Option Value) (fa : Addr) (q : Program) : Prop :=
  ∃ (cs : List (Addr × Addr × Str)) (I : PenC) (law : DSp) (fd : FuncData), I.toTabC.T = cs.map (fun p => (p.2.1, p.2.2)) ∧ (∀ p ∈ cs, TabAtK K mg q p) ∧ (∀ (s : Shared) (u : Value), BindsTo s fd ⟨[u], []⟩ [(x, u)]) ∧
    (∀ ns : List Int, ns.length ≤ n → (∀ z ∈ ns, Builtin.Int.intBits z ≤ 1048576) → law [.f ns] [] (fun s _ => s = .d (.bool true)) fun _ _ _ => False) ∧
    ∀ base : Heap, K.In base → base.Ns mainGlobals mg → (∀ p ∈ cs, LamX.TabB base mg p.1 p.2.1) → @FnD I.toTabC P w K mg base CX k fa fd [x] law
class TTC where
  tt : List (Addr × Str)
section
variable [PenC]
def rCountD (K : Frag) : V → List V → Hp → VK → Prop := fun x xs H Q => ∃ (a : Addr) (y : V) (d : PyData) (ds : List PyData), x = V.ref a ∧ xs = [y] ∧ Dp K H (V.ref a) (.list ds) ∧ Dp K H y d ∧ SeqAt.shaped (.list ds) = true ∧ SeqAt.shaped d = true ∧ Q (.int (ds.countP fun z => PyData.eqv z d : Nat)) H
def mCount : FM := fun s ss st Q => match ss with
  | [t] => match vw st s, vw st t with
    | some (.list ds), some d => SeqAt.shaped (.list ds) = true ∧ SeqAt.shaped d = true ∧ Q (.d (.int (ds.countP fun z => PyData.eqv z d : Nat))) st
    | _, _ => False
  | _ => False
def mCountS : FM := fun s ss st Q => match vw st s, ss with
  | some (.str a), [t] => match vw st t with
    | some (.str b) => Q (.d (.int (Txt.count a b))) st
    | _ => False
  | _, _ => False
end
end Pz
set_option maxRecDepth 100000
namespace Rz
open PySem PySem.Spec PyProof.Rows L2
section
variable {X : Cx} {e : Expr} {te : TE} {t : TA} {i : Nat} {x y c d : Str} {j0 j1 : Nat} {p1 p2 c0 c1 b0 apos cpos spos : Pos} {rest : List Stmt} {u : TS}
def tRepM (to te : TE) (c d : Str) : TE := fun σ H Q => to σ H fun v H1 => ∃ a, v = .str a ∧ te σ H1 fun w H2 => ∃ n : Int, w = .int n ∧ 0 ≤ n ∧ n ≤ 1000000 ∧ d.length * n.toNat ≤ sizeLine ∧ (c == Txt.mul d n) = false ∧ a.length + (a.length + 1) * (Txt.mul d n).length ≤ 16777216 ∧ Q (.str (Txt.replace a c (Txt.mul d n))) H2
end
end Rz
namespace Pz
open PySem PySem.Spec PyProof.Rows L2 TL Rz
variable [PenC]
section
variable {X : Cx} {E : WXs} {Z0 : Zs} {rest : List Stmt} {st : Stmt} {u v : DS} {e : Expr} {te to : DE} {t : DA} {i : Nat} {x c d : Str} {j0 j1 : Nat} {p1 p2 c0 c1 b0 apos cpos spos : Pos}
structure DSsT (X : Cx) (E : WXs) (Z0 : Zs) (st : List Stmt) (τ : DS) : Prop where
  run : PSsT X st (upS X.K E Z0 τ)
structure DStT (X : Cx) (E : WXs) (Z0 : Zs) (st : Stmt) (τ : DS) : Prop where
  run : PST X st (upS X.K E Z0 τ)
theorem DSs.T (h : DSs X E Z0 rest u) : DSsT X E Z0 rest u := ⟨PSsT.of h.run⟩
theorem DSt.T (h : DSt X E Z0 st u) : DStT X E Z0 st u := ⟨PST.of h.run⟩
def wRep (to te : DE) (c d : Str) : DE := fun Ed sl st Q => to Ed sl st fun s st => ∃ a, vw st s = some (.str a) ∧ te Ed sl st fun s2 st => ∃ n : Int, vw st s2 = some (.int n) ∧ 0 ≤ n ∧ n ≤ 1000000 ∧ d.length * n.toNat ≤ sizeLine ∧ (c == Txt.mul d n) = false ∧ a.length + (a.length + 1) * (Txt.mul d n).length ≤ 16777216 ∧ Q (.d (.str (Txt.replace a c (Txt.mul d n)))) st
theorem wRep_ap {Ed : DX} {sl : Sls} {st : Sto} {Q : DK} : wRep to te c d Ed sl st Q = (to Ed sl st fun s st => ∃ a, vw st s = some (.str a) ∧ te Ed sl st fun s2 st => ∃ n : Int, vw st s2 = some (.int n) ∧ 0 ≤ n ∧ n ≤ 1000000 ∧ d.length * n.toNat ≤ sizeLine ∧ (c == Txt.mul d n) = false ∧ a.length + (a.length + 1) * (Txt.mul d n).length ≤ 16777216 ∧ Q (.d (.str (Txt.replace a c (Txt.mul d n)))) st) := rfl
end
end Pz
set_option maxRecDepth 100000
set_option maxHeartbeats 1000000
namespace Zm
open PySem PySem.Spec PyProof.Rows L2
section
variable {prog : Program} {w : World} {A : Around} {E : Value → Shared → Prop} {s : Shared}
structure Src (prog : Program) (w : World) (A : Around) (it l : Addr) (S : Nat → Heap → Prop) (xs : Array Value) : Prop where
  item : ∀ {k : Nat} {x : Value} {s : Shared} {Q : Value → Shared → Prop} {E : Value → Shared → Prop}, S k s.heap → xs[k]? = some x → (∀ h', S (k + 1) h' → Heap.SameBut it s.heap h' → Q x { s with heap := h' }) → wpAny (model prog w) A (Builtin.SmallTypes.nextOf (.ref it)) Q E s
  ends : ∀ {k : Nat} {s : Shared} {Q : Value → Shared → Prop} {E : Value → Shared → Prop}, A.handled = none → S k s.heap → xs[k]? = none → (∀ h' e, Heap.ExtBut it s.heap h' → (∃ o, h'.get? e = some o ∧ o.cls = .type "StopIteration") → E (.ref e) { s with heap := h' }) → wpAny (model prog w) A (Builtin.SmallTypes.nextOf (.ref it)) Q E s
  keep : ∀ {k : Nat} {h h' : Heap}, S k h → (∀ c o, (c = it ∨ c = l) → h.get? c = some o → h'.get? c = some o) → S k h'
variable {z TI TO i1 i2 l1 l2 : Addr} {k : Nat} {xs ys : Array Value} {x y a b : Value} {S1 S2 : Nat → Heap → Prop}
abbrev mH1 (h : Heap) (l1 : Addr) : Heap := h.push { cls := .type "list_iterator", data := .fields #[.ref l1, .int 0 0] }
abbrev mH2 (h : Heap) (l1 l2 : Addr) : Heap := (mH1 h l1).push { cls := .type "tuple_iterator", data := .fields #[.ref l2, .int 0 0] }
abbrev mH3 (h : Heap) (l1 l2 : Addr) : Heap := (mH2 h l1 l2).push { cls := .type "tuple", data := .seq #[.ref h.objs.size, .ref (mH1 h l1).objs.size] }
abbrev mH4 (h : Heap) (l1 l2 : Addr) : Heap := (mH3 h l1 l2).push { cls := .type "tuple", data := .seq #[.none, .none] }
abbrev mH5 (h : Heap) (l1 l2 : Addr) : Heap := (mH4 h l1 l2).push { cls := .type "zip", data := .fields #[.none, .bool false, .bool false, .ref (mH2 h l1 l2).objs.size, .ref (mH3 h l1 l2).objs.size] }
theorem meets_new (l1 l2 : Addr) (xs ys : Array Value) :
    Meets (Builtin.«zip.__new__» ⟨[.type "zip", .ref l1, .ref l2], []⟩) (fun _ R s => s.heap.IsList l1 xs ∧ s.heap.IsTuple l2 ys ∧
      R (.ok (.ret (.ref (mH4 s.heap l1 l2).objs.size))) { s with heap := mH5 s.heap l1 l2 }) :=
  .of_wp fun prog w A R s h => by
    obtain ⟨hp, g, d, tk, os⟩ := s; obtain ⟨hl1, hl2, h⟩ := h
    have hsub := sub_zip
    have hL1 : Heap.IsList (Shared.heap ⟨hp, g, d, tk, os⟩) l1 xs := hl1
    have hL2 : Heap.IsTuple (Shared.heap ⟨hp.push { cls := .type "list_iterator", data := .fields #[.ref l1, .int 0 0] }, g, d, tk, os⟩) l2 ys := Heap.IsTuple.push hl2 _
    wp_walk using wpAny_pyIter_list hL1, wpAny_pyIter_tuple hL2
    exact ⟨_, rfl, h⟩
theorem call_new {Q : Value → Shared → Prop} (hl1 : s.heap.IsList l1 xs) (hl2 : s.heap.IsTuple l2 ys)
    (h : ∀ h', IsZip h' (s.heap.objs.size + 4) (s.heap.objs.size + 2) (s.heap.objs.size + 3) .none → IsPair h' (s.heap.objs.size + 2) (.ref s.heap.objs.size) (.ref (s.heap.objs.size + 1)) →
      IsPair h' (s.heap.objs.size + 3) .none .none → h'.IsListIter s.heap.objs.size l1 0 → h'.IsTupleIter (s.heap.objs.size + 1) l2 0 →
      (∀ c o, s.heap.get? c = some o → h'.get? c = some o) → Q (.ref (s.heap.objs.size + 4)) { s with heap := h' }) :
    wpAny (model prog w) A (call (.type "zip") [.ref l1, .ref l2]) Q E s := by
  refine callType_new F.called_zip (by decide) (F.typeCall_zip_2 _ _) (F.newCall_zip_2 _ _) (fun obj => F.args_object_init_3 obj _ _) F.entry_zip_new (meets_new l1 l2 xs ys) ⟨hl1, hl2, ?_⟩
  have n1 : (mH1 s.heap l1).objs.size = s.heap.objs.size + 1 := Heap.size_push ..
  have n2 : (mH2 s.heap l1 l2).objs.size = s.heap.objs.size + 2 := by rw [Heap.size_push, n1]
  have n3 : (mH3 s.heap l1 l2).objs.size = s.heap.objs.size + 3 := by rw [Heap.size_push, n2]
  have n4 : (mH4 s.heap l1 l2).objs.size = s.heap.objs.size + 4 := by rw [Heap.size_push, n3]
  have on : ∀ {h : Heap} {ob o : Obj} {c : Addr}, h.get? c = some o → (h.push ob).get? c = some o := fun q => Heap.get?_push_of_some _ q
  have g5 : (mH5 s.heap l1 l2).get? (mH4 s.heap l1 l2).objs.size = some _ := Heap.get?_push_size _ rfl
  have g4 : (mH5 s.heap l1 l2).get? (mH3 s.heap l1 l2).objs.size = some _ := on (Heap.get?_push_size _ rfl)
  have g3 : (mH5 s.heap l1 l2).get? (mH2 s.heap l1 l2).objs.size = some _ := on (on (Heap.get?_push_size _ rfl))
  have g2 : (mH5 s.heap l1 l2).get? (mH1 s.heap l1).objs.size = some _ := on (on (on (Heap.get?_push_size _ rfl)))
  have g1 : (mH5 s.heap l1 l2).get? s.heap.objs.size = some _ := on (on (on (on (Heap.get?_push_size _ rfl))))
  show _ ∧ _
  rw [n2, n3, n4] at g5
  rw [n1, n2] at g3
  rw [n3] at g4
  rw [n1] at g2
  rw [n4]
  exact ⟨⟨_, g5, rfl⟩, h _ g5 g3 g4 ⟨_, g1, rfl, rfl⟩ ⟨_, g2, rfl, rfl⟩ fun c o q => on (on (on (on (on q))))⟩
end
def ItM (K : PySem.W.Frag) (a b : Addr) : It :=
  ⟨fun i H => ∃ (xs ys : List V) (x y : V), SqL K H a xs ∧ SqT K H b ys ∧ xs[i]? = some x ∧ ys[i]? = some y,
    fun i H v H' => ∃ T x y, v = .ref T ∧ H T = none ∧ H' = upd H T (.tup [x, y]) ∧ (∀ xs, SqL K H a xs → xs[i]? = some x) ∧ ∀ ys, SqT K H b ys → ys[i]? = some y,
    fun i H => ∃ xs ys : List V, SqL K H a xs ∧ SqT K H b ys ∧ (xs.length ≤ i ∨ ys.length ≤ i)⟩
def iZipM (K : PySem.W.Frag) (ta : TA) : TI := fun σ H R => ta σ H fun vs H1 => ∃ a b xs ys, vs = [.ref a, .ref b] ∧ SqL K H1 a xs ∧ SqT K H1 b ys ∧ R (ItM K a b) H1
end Zm
namespace Pz
open PySem PySem.Spec PyProof.Rows L2 TL
variable [PenC]
variable {X : Cx} {E : WXs} {Z0 : Zs} {K : Frag} {t : DA} {e e2 : Expr} {p pos tpos : Pos} {elts : List Expr} {kk : Nat}
def wZipM (te : DA) : DI := fun Ed sl st Q => te Ed sl st fun ss st => match ss with
  | [.d (.list ds), .d (.tuple es)] => Q (zipD ds es) st
  | _ => False
theorem wZipM_ap {te : DA} {Ed : DX} {sl : Sls} {st : Sto} {Q : List PyData → Sto → Prop} : wZipM te Ed sl st Q = (te Ed sl st fun ss st => match ss with
  | [.d (.list ds), .d (.tuple es)] => Q (zipD ds es) st
  | _ => False) := rfl
end Pz
set_option maxRecDepth 100000
namespace Pz
open PySem PySem.Spec PyProof.Rows L2 TL PySem.W
variable [PenC]
def tLenSetT (K : Frag) (ta : TE) : TE := fun σ H Q => ta σ H fun x H1 => ∃ (l : Addr) (ks : List (Addr × List Int)), x = V.ref l ∧ SqL K H1 l (ks.map fun p => V.ref p.1) ∧ (∀ p ∈ ks, SqT K H1 p.1 (p.2.map V.int)) ∧ ks.length < 64 ∧ ∀ M : List (List Int), M.Nodup → (∀ k, k ∈ M ↔ k ∈ ks.map (·.2)) → Q (.int M.length) H1
section
variable {X : Cx} {E : WXs} {a : Expr} {ta : TE} {te : DE} {p p2 q pos : Pos} {K : Frag}
def wLenSet (te : DE) : DE := fun Ed sl st Q => te Ed sl st fun s st => match vw st s with
  | some (.list ds) => ∃ kss : List (List Int), ds = kss.map (fun k => .tuple (k.map .int)) ∧ kss.length < 64 ∧ ∀ M : List (List Int), M.Nodup → (∀ k, k ∈ M ↔ k ∈ kss) → Q (.d (.int M.length)) st
  | _ => False
theorem wLenSet_ap {Ed : DX} {sl : Sls} {st : Sto} {Q : DK} : wLenSet te Ed sl st Q = (te Ed sl st fun s st => match vw st s with
  | some (.list ds) => ∃ kss : List (List Int), ds = kss.map (fun k => .tuple (k.map .int)) ∧ kss.length < 64 ∧ ∀ M : List (List Int), M.Nodup → (∀ k, k ∈ M ↔ k ∈ kss) → Q (.d (.int M.length)) st
  | _ => False) := rfl
end
end Pz
set_option maxRecDepth 100000
namespace Pz
open PySem PySem.Spec PyProof.Rows L2 TL PySem.W
variable [PenC]
def borS : Option Sl → Option Sl
  | some (.d x) => some (.d x)
  | _ => none
def atomD : PyData → Bool
  | .int _ => true
  | .bool _ => true
  | .str _ => true
  | .none => true
  | _ => false
def wBor (i : Nat) (te : DE) : DE := fun _ sl st Q => match nthS sl i with
  | some (.o h) => match st[h]? with
    | some (.lst ds) => te (fun _ _ _ _ => False) ((sl.map borS).set i (some (.d (.list ds)))) [] fun s _ => match s with
      | .d x => atomD x = true ∧ Q (.d x) st
      | _ => False
    | _ => False
  | _ => False
theorem wBor_ap {i : Nat} {te : DE} {Ed : DX} {sl : Sls} {st : Sto} {Q : DK} : wBor i te Ed sl st Q = (match nthS sl i with
  | some (.o h) => match st[h]? with
    | some (.lst ds) => te (fun _ _ _ _ => False) ((sl.map borS).set i (some (.d (.list ds)))) [] fun s _ => match s with
      | .d x => atomD x = true ∧ Q (.d x) st
      | _ => False
    | _ => False
  | _ => False) := rfl
end Pz
set_option maxRecDepth 100000
namespace Pz
open PySem PySem.Spec PyProof.Rows L2 TL PySem.W
variable [PenC]
def gTpL (n : Nat) (gs : DGL) : DG := fun s sl st Q => match vw st s with
  | some (.list ds) => ds.length = n ∧ gs ds sl st Q
  | _ => False
theorem gTpL_ap {n : Nat} {gs : DGL} {s : Sl} {sl : Sls} {st : Sto} {Q : Sls → Sto → Prop} : gTpL n gs s sl st Q = (match vw st s with
  | some (.list ds) => ds.length = n ∧ gs ds sl st Q
  | _ => False) := rfl
theorem dg_tupL {X : Cx} {pos : Pos} {es : List Expr} {is : List Nat} {gs : DGL} {kk n : Nat} (hc : X.calm = true) (h : DGs X es is gs) (hn : (assignEach es X.env).length = n := by rfl) (hst : (assignEach es X.env).findIdx? (·.1) = none := by rfl) : DGt X (.Tuple es kk pos) is (gTpL n gs) :=
  ⟨pgI (pg_unl hc h.run hn hst) fun v σ H Q ⟨Z, sl, s, Qd, h, ok, so, r, w, k⟩ => by
    subst h
    unfold gTpL at w
    split at w
    · rename_i ds e1
      obtain ⟨a, xs, rfl, h, q⟩ := r.list ok e1
      exact ⟨a, xs, rfl, .of h, q.length.trans w.1, Z, sl, ds, Qd, rfl, ok, so, q, w.2, k⟩
    · exact w.elim⟩
end Pz
set_option maxRecDepth 100000
namespace L2
open PySem PySem.Spec PyProof.Rows
section
variable {X : Cx}
def tRevS (te : TE) : TE := fun σ H Q => te σ H fun x H1 => ∃ z, x = .str z ∧ z.length ≤ sizeLine ∧ Q (.str ⟨z.cps.toList.reverse.toArray⟩) H1
theorem rev_pick (z : Str) : ((Builtin.Str.strSliceIndices none none (-1) z.length).filterMap (z.cps[·]?)).toArray = z.cps.toList.reverse.toArray := by
  have e : Builtin.Str.strSliceIndices none none (-1) z.length = sliceRange ((z.length : Int) - 1) (-1) (-1) := rfl
  rw [e, PySem.W.krv_sliceRange, PySem.W.krv_range, List.filterMap_reverse]
  show ((List.filterMap (z.cps[·]?) (List.range z.cps.size)).reverse).toArray = _
  have a := PySem.W.krv_all z.cps
  rw [a]
theorem pe_revS {e : Expr} {te : TE} {k : Nat} {p1 p2 p3 pos : Pos} (he : PE X e te) : PE X (.Subscript e (.Slice none none (some (.UnaryOp .USub (.Constant (.int 1) k p1) p2)) p3) pos) (tRevS te) := by
  refine ⟨fun pins s σ H Q I h => ?_⟩
  refine Subscript_ (thn (he.run pins s σ H _ I h) fun v s1 ⟨x, H1, I1, r1, q1⟩ => ?_)
  have hst : PO X (some (.UnaryOp .USub (.Constant (.int 1) k p1) p2)) (tPart (tUn (rU fun i => .int (-i)) (tC (.int 1)))) := po_some (pe_un un_neg pe_int)
  refine wpAny_Slice (thn (po_none.run pins s1 σ H1 (fun o H2 => o = none ∧ H2 = H1) I1 ⟨rfl, rfl⟩) fun vl s2 ⟨l, H2, I2, pl, el, e2⟩ => ?_)
  subst el e2
  refine thn (po_none.run pins s2 σ H2 (fun o H3 => o = none ∧ H3 = H2) I2 ⟨rfl, rfl⟩) fun vu s3 ⟨u, H3, I3, pu, eu, e3⟩ => ?_
  subst eu e3
  refine thn (hst.run pins s3 σ H3 (fun o H4 => o = some (-1) ∧ H4 = H3) I3 ⟨1, rfl, -1, rfl, rfl, rfl⟩) fun vs s4 ⟨o, H4, I4, ps, eo, e4⟩ => ?_
  subst eo e4
  have I5 : Inv X pins σ H4 { s4 with heap := s4.heap.push { cls := .type "slice", data := .fields #[vl, vu, vs] } } := I4.kept (t' := s4.toks) fun b ob q => Heap.get?_push_of_some _ q
  obtain ⟨z, rfl, hz, q⟩ := q1
  obtain ⟨t, rfl⟩ := r1
  cases pl
  cases pu
  cases ps with
  | int _ w =>
  show wpAny (model X.prog X.w) X.A (subscriptTail e (.Slice none none (some (.UnaryOp .USub (.Constant (.int 1) k p1) p2)) p3) (.str z t) (.ref s4.heap.objs.size)) (EP X pins σ Q) X.xe { s4 with heap := s4.heap.push { cls := .type "slice", data := .fields #[.none, .none, .int (-1) w] } }
  refine tail_any (ops := [.str z t, .ref s4.heap.objs.size]) (typeIs_str _ _ _) (F.slot_str_getitem.lookup) ?_ (by with_unfolding_all rfl)
  refine wpAny_getItem_str_slice (l := none) (u := none) (st := some (-1, w)) ⟨_, Heap.get?_push_size _ rfl, rfl, rfl⟩ rfl ?_
  show Made.post (if (((-1 : Int) == 1) && (Builtin.Str.strSliceIndices none none (-1) z.length).length == z.length) = true then Made.val (.str z t) else Made.str ⟨((Builtin.Str.strSliceIndices none none (-1) z.length).filterMap (z.cps[·]?)).toArray⟩) (EP X pins σ Q) _
  rw [if_neg (by intro h; rw [Bool.and_eq_true] at h; exact absurd h.1 (by decide)), rev_pick]
  refine ⟨?_, .str _, _, I5.tok _, ⟨_, rfl⟩, q⟩
  show (z.cps.toList.reverse.toArray).size ≤ sizeLine
  rw [List.size_toArray, List.length_reverse, Array.length_toList]
  exact hz
end
end L2
namespace Pz
open PySem PySem.Spec PyProof.Rows L2 TL
variable [PenC]
section
variable {X : Cx} {E : WXs} {Z0 : Zs} {a b e : Expr} {ta tb te : DE} {pos p p2 pos2 : Pos} {K : Frag}
def wTupRg (tr : DX → Sls → Sto → (Int → Int → Sto → Prop) → Prop) : DE := fun Ed sl st Q => tr Ed sl st fun i j st => RgOk i j ∧ Q (.d (.tuple (rng i (j - i).toNat))) st
theorem wTupRg_ap {tr : DX → Sls → Sto → (Int → Int → Sto → Prop) → Prop} {Ed : DX} {sl : Sls} {st : Sto} {Q : DK} : wTupRg tr Ed sl st Q = (tr Ed sl st fun i j st => RgOk i j ∧ Q (.d (.tuple (rng i (j - i).toNat))) st) := rfl
def revT (z : Str) : Str := ⟨z.cps.toList.reverse.toArray⟩
def wRevS (te : DE) : DE := fun Ed sl st Q => te Ed sl st fun s st => match vw st s with
  | some (.str z) => z.length ≤ sizeLine ∧ Q (.d (.str (revT z))) st
  | _ => False
theorem wRevS_ap {Ed : DX} {sl : Sls} {st : Sto} {Q : DK} : wRevS te Ed sl st Q = (te Ed sl st fun s st => match vw st s with
  | some (.str z) => z.length ≤ sizeLine ∧ Q (.d (.str (revT z))) st
  | _ => False) := rfl
theorem de_revS {k : Nat} {p1 p2 p3 : Pos} (he : DEx X E e te) : DEx X E (.Subscript e (.Slice none none (some (.UnaryOp .USub (.Constant (.int 1) k p1) p2)) p3) pos) (wRevS te) :=
  ⟨peI (pe_revS he.run) fun σ H Q ⟨Z, sl, Qd, Ed, h, ok, so, w, kq, kx⟩ =>
    ⟨Z, sl, _, Ed, h, ok, so, w, fun Z1 v s l1 ok1 r1 w1 => by
      simp only at w1
      split at w1
      · rename_i z e
        obtain ⟨w1, w2⟩ := w1
        exact ⟨z, r1.str e, w1, kq Z1 (.str (revT z)) (.d (.str (revT z))) l1 ok1 (Im.str _) w2⟩
      · exact w1.elim, kx⟩⟩
def rInsert : V → List V → Hp → VK → Prop := fun x vs H Q => ∃ (l : Addr) (xs : List V) (i : Int) (y : V), x = .ref l ∧ vs = [.int i, y] ∧ H l = some (.lst xs) ∧ xs.length < sizeLine ∧ 0 ≤ i ∧ i < 2 ^ 63 ∧ Q .non (upd H l (.lst (xs.take i.toNat ++ [y] ++ xs.drop i.toNat)))
def mInsert : FM := fun s ss st Q => match s, ss with
  | .o h, [t, .d y] => match st[h]?, vw st t with
    | some (.lst ds), some (.int i) => ds.length < sizeLine ∧ 0 ≤ i ∧ i < 2 ^ 63 ∧ Q (.d .none) (st.set h (.lst (ds.take i.toNat ++ [y] ++ ds.drop i.toNat)))
    | _, _ => False
  | _, _ => False
def wFmt (te : DE) : DE := fun Ed sl st Q => te Ed sl st fun s st => match vw st s with
  | some (.str y) => y.length ≤ sizeLine ∧ Q (.d (.str y)) st
  | some (.int i) => i.natAbs < 10 ^ 100 ∧ Q (.d (.str (PyData.shown (.int i)))) st
  | _ => False
theorem wFmt_ap {Ed : DX} {sl : Sls} {st : Sto} {Q : DK} : wFmt te Ed sl st Q = (te Ed sl st fun s st => match vw st s with
  | some (.str y) => y.length ≤ sizeLine ∧ Q (.d (.str y)) st
  | some (.int i) => i.natAbs < 10 ^ 100 ∧ Q (.d (.str (PyData.shown (.int i)))) st
  | _ => False) := rfl
def wJs : List DE → Str → DX → Sls → Sto → (Str → Sto → Prop) → Prop
  | [], acc, _, _, st, Q => Q acc st
  | t :: ts, acc, Ed, sl, st, Q => t Ed sl st fun s st => match vw st s with
    | some (.str y) => (acc ++ y).length ≤ sizeLine ∧ wJs ts (acc ++ y) Ed sl st Q
    | _ => False
inductive DJ (X : Cx) (E : WXs) : List Expr → List DE → Prop where
  | nil : DJ X E [] []
  | cons {e : Expr} {t : DE} {es : List Expr} {ts : List DE} (h : DEx X E e t) (r : DJ X E es ts) : DJ X E (e :: es) (t :: ts)
def wJoined (ts : List DE) : DE := fun Ed sl st Q => wJs ts Str.empty Ed sl st fun y st => Q (.d (.str y)) st
theorem wJoined_ap {ts : List DE} {Ed : DX} {sl : Sls} {st : Sto} {Q : DK} : wJoined ts Ed sl st Q = wJs ts Str.empty Ed sl st fun y st => Q (.d (.str y)) st := rfl
theorem wJs_nil {acc : Str} {Ed : DX} {sl : Sls} {st : Sto} {Q : Str → Sto → Prop} : wJs [] acc Ed sl st Q = Q acc st := rfl
theorem wJs_cons {t : DE} {ts : List DE} {acc : Str} {Ed : DX} {sl : Sls} {st : Sto} {Q : Str → Sto → Prop} : wJs (t :: ts) acc Ed sl st Q = (t Ed sl st fun s st => match vw st s with
    | some (.str y) => (acc ++ y).length ≤ sizeLine ∧ wJs ts (acc ++ y) Ed sl st Q
    | _ => False) := rfl
def rIntS : List V → Hp → VK → Prop := fun xs H Q => ∃ a n, xs = [.str a] ∧ PySem.intText? a = some n ∧ a.length ≤ 640 ∧ Q (.int n) H
theorem cr_intS : CallR X (.type "int") rIntS := call_int_str
def fIntS : FA := fun ss st Q => match ss with
  | [s] => match vw st s with
    | some (.str z) => z.length ≤ 640 ∧ ∃ n, PySem.intText? z = some n ∧ Q (.d (.int n)) st
    | _ => False
  | _ => False
theorem cd_intS : CallD K rIntS fIntS := by
  intro Z vs ss Qd Q ok ra w k
  unfold fIntS at w
  split at w
  · obtain ⟨v, rfl, r1⟩ := rp1 ra
    split at w
    · rename_i z e1
      rw [r1.str e1]
      obtain ⟨w1, n, w2, w3⟩ := w
      exact ⟨z, n, rfl, w2, w1, k.now ok (.int _) w3⟩
    · exact w.elim
  · exact w.elim
end
end Pz
set_option maxRecDepth 100000
namespace Sz
open PySem PySem.Spec PyProof.Rows L2
section
variable {prog : Program} {w : World} {A : Around} {E : Value → Shared → Prop} {s : Shared}
end
end Sz
namespace Pz
open PySem PySem.Spec PyProof.Rows L2 TL
variable [PenC]
section
variable {X : Cx} {K : Frag}
def rStrN : List V → Hp → VK → Prop := fun xs H Q => (xs = [.non] ∧ Q (.str (Str.ofString "None")) H) ∨ rStr xs H Q
def fStrN : FA := fun ss st Q => match ss with
  | [s] => match vw st s with
    | some .none => Q (.d (.str (Str.ofString "None"))) st
    | some (.int i) => i.natAbs < 10 ^ 100 ∧ Q (.d (.str (PyData.shown (.int i)))) st
    | _ => False
  | _ => False
end
def orP (o : Option Bool) (A B : Prop) : Prop := match o with
  | some b => if b = true then A else B
  | none => False
theorem orP_some {b : Bool} {A B : Prop} : orP (some b) A B = if b = true then A else B := rfl
theorem orP_none {A B : Prop} : orP none A B = False := rfl
theorem orP_str {st : Sto} {z : Str} {A B : Prop} : orP (truD st (.d (.str z))) A B = (z.length ≤ 16777216 ∧ if z.length = 0 then B else A) := by
  unfold truD
  show orP (if z.length ≤ sizeLine then some ((z.length : Int) != 0) else none) A B = _
  by_cases h : z.length ≤ sizeLine
  · rw [if_pos h, orP_some]
    have h2 : z.length ≤ 16777216 := h
    by_cases h0 : z.length = 0
    · rw [if_neg (by simp [h0]), if_pos h0]; exact propext ⟨fun q => ⟨h2, q⟩, fun q => q.2⟩
    · rw [if_pos (by simp; omega), if_neg h0]; exact propext ⟨fun q => ⟨h2, q⟩, fun q => q.2⟩
  · rw [if_neg h, orP_none]
    have h2 : ¬ z.length ≤ 16777216 := h
    exact propext ⟨fun q => q.elim, fun q => h2 q.1⟩
section
variable {ta tb : DE} {Ed : DX} {sl : Sls} {st : Sto} {Q : DK}
theorem wOrX_apS : wOrX ta tb Ed sl st Q = (ta Ed sl st fun s st => orP (truD st s) (Q s st) (tb Ed sl st Q)) := rfl
theorem wAndX_apS : wAndX ta tb Ed sl st Q = (ta Ed sl st fun s st => orP (truD st s) (tb Ed sl st Q) (Q s st)) := rfl
end
theorem and_share {A : Prop} [Decidable A] {P Y : Prop} (hY : Y) (hP : Y → A → P) : if A then P else Y := by
  split
  · next h => exact hP hY h
  · exact hY
end Pz
set_option maxRecDepth 100000
namespace Pz
open PySem PySem.Spec PyProof.Rows L2 TL
variable [PenC]
section
variable {K : Frag}
def rInQ (K : Frag) (neg : Bool) : R2 := fun x y H Q => ∃ d ds, Dp K H x d ∧ Dp K H y (.tuple ds) ∧ SeqAt.shaped d = true ∧ SeqAt.shaped (.tuple ds) = true ∧ Q (.bl (if neg then !ds.any fun z => PyData.eqv z d else ds.any fun z => PyData.eqv z d)) H
def oInQ (neg : Bool) (x y : Sl) (st : Sto) (Q : DK) : Prop := match vw st x, vw st y with
  | some d, some (.tuple ds) => SeqAt.shaped d = true ∧ SeqAt.shaped (.tuple ds) = true ∧ Q (.d (.bool (if neg then !ds.any fun z => PyData.eqv z d else ds.any fun z => PyData.eqv z d))) st
  | _, _ => False
end
end Pz
namespace Pz
open PySem PySem.Spec PyProof.Rows L2 TL
variable [PenC]
def setAll : List Nat → List Sl → Sls → Sls
  | i :: is, s :: ss, sl => setAll is ss (sl.set i (some s))
  | _, _, sl => sl
structure DGn (X : Cx) (ts : List Expr) (is : List Nat) : Prop where
  run : PGs X ts fun vs σ H Q => ∃ (Z : Zs) (sl : Sls) (ss : List Sl) (Qd : Sls → Prop), Z.H = H ∧ Ok X.K Z ∧ SlOk X.K Z σ sl ∧ RpAll X.K Z vs ss ∧ ss.length = is.length ∧ Qd (setAll is ss sl) ∧ ∀ (σ' : L2.St) (sl' : Sls), SlOk X.K Z σ' sl' → Qd sl' → Q σ' Z.H
section
variable {X : Cx} {E : WXs} {Z0 : Zs} {pos : Pos} {x : Str}
def wAsgS (is : List Nat) (t : DA) : DS := fun D sl st => t D.ex sl st fun ss st => ss.length = is.length ∧ ss.length ≤ sizeLine ∧ D.nx (setAll is ss sl) st
theorem wAsgS_ap {is : List Nat} {t : DA} {nx bk ct : Sls → Sto → Prop} {rt : DK} {ex : DX} {sl : Sls} {st : Sto} : wAsgS is t ⟨nx, rt, ex, bk, ct⟩ sl st = t ex sl st fun ss st => ss.length = is.length ∧ ss.length ≤ sizeLine ∧ nx (setAll is ss sl) st := rfl
end
end Pz
set_option maxRecDepth 100000
namespace Pz
open PySem PySem.Spec PyProof.Rows L2 TL
variable [PenC]
section
variable {X : Cx} {E : WXs} {Z0 : Zs} {a b c : Expr} {t : DA} {pos px py pz pt pt2 : Pos} {x y z : Str} {kt k2 : Nat}
def wPar3 (i j l : Nat) (t : DA) : DS := fun D sl st => t D.ex sl st fun ss st => match ss with
  | [a, b, c] => D.nx (((sl.set i (some a)).set j (some b)).set l (some c)) st
  | _ => False
theorem wPar3_ap {i j l : Nat} {t : DA} {nx bk ct : Sls → Sto → Prop} {rt : DK} {ex : DX} {sl : Sls} {st : Sto} : wPar3 i j l t ⟨nx, rt, ex, bk, ct⟩ sl st = t ex sl st fun ss st => match ss with
  | [a, b, c] => nx (((sl.set i (some a)).set j (some b)).set l (some c)) st
  | _ => False := rfl
end
end Pz
set_option maxRecDepth 100000
namespace Pz
open PySem PySem.Spec PyProof.Rows L2 TL
variable [PenC]
section
variable {X : Cx} {E : WXs} {Z0 : Zs} {a b c e : Expr} {es : List Expr} {ta tb tc te : DE} {t : DA} {pos p : Pos} {x : Str} {K : Frag} {A : DT}
def wDcL (g : DG) (tt : DT) (tk te : DE) (sl : Sls) : List PyData → KD → Sto → (KD → Sto → Prop) → Prop
  | [], acc => fun st Q => Q acc st
  | d :: ds, acc => fun st Q => g (.d d) sl st fun sl2 st => tt (fun _ _ _ _ => False) sl2 st fun b st => if b = true then tk (fun _ _ _ _ => False) sl2 st fun ks st => te (fun _ _ _ _ => False) sl2 st fun s st => match keyS st ks, s with
      | some k, .d y => acc.length < sizeLine ∧ wDcL g tt tk te sl ds (putD acc k y) st Q
      | _, _ => False
    else wDcL g tt tk te sl ds acc st Q
def wDc (ω : DI) (g : DG) (tt : DT) (tk te : DE) (vs : List Nat) : DE := fun Ed sl st Q => ω Ed sl st fun ds st => wDcL g tt tk te (wipeS sl vs) ds [] st fun acc st => Q (.d (.dict (kdD acc))) st
theorem wDc_ap {ω : DI} {g : DG} {tt : DT} {tk te : DE} {vs : List Nat} {Ed : DX} {sl : Sls} {st : Sto} {Q : DK} : wDc ω g tt tk te vs Ed sl st Q = ω Ed sl st fun ds st => wDcL g tt tk te (wipeS sl vs) ds [] st fun acc st => Q (.d (.dict (kdD acc))) st := rfl
variable {elt kx tg iter : Expr} {ifs : List Expr} {scope : Scope} {own : List (Str × Nat)} {ω : DI} {is : List Nat} {g : DG} {tt : DT}
end
section
variable {X : Cx} {E : WXs} {o e f : Expr} {td ty tx : DE} {apos cpos : Pos} {K : Frag}
def dkX : Sl → Option KD
  | .d (.dict l) => unKD l
  | _ => none
def wDGet3 (td ty tx : DE) : DE := fun Ed sl st Q => td Ed sl st fun s st => (dkX s).isSome = true ∧ ty Ed sl st fun t st => tx Ed sl st fun u st => match dkX s, keyS st t with
  | some kvs, some k => match valD kvs k with
    | some d => Q (.d d) st
    | none => Q u st
  | _, _ => False
theorem wDGet3_ap {Ed : DX} {sl : Sls} {st : Sto} {Q : DK} : wDGet3 td ty tx Ed sl st Q = (td Ed sl st fun s st => (dkX s).isSome = true ∧ ty Ed sl st fun t st => tx Ed sl st fun u st => match dkX s, keyS st t with
  | some kvs, some k => match valD kvs k with
    | some d => Q (.d d) st
    | none => Q u st
  | _, _ => False) := rfl
end
end Pz
set_option maxRecDepth 100000
namespace Pz
open PySem PySem.Spec PyProof.Rows L2 TL
variable [PenC]
section
variable {X : Cx} {K : Frag}
def rIsBN : R2 := fun x y H Q => ∃ b : Bool, y = .bl b ∧ ((∃ a : Bool, x = .bl a ∧ Q (.bl (decide (a = b))) H) ∨ (x = .non ∧ Q (.bl false) H))
def oIsBN (x y : Sl) (st : Sto) (Q : DK) : Prop := match vw st x, vw st y with
  | some (.bool a), some (.bool b) => Q (.d (.bool (decide (a = b)))) st
  | some .none, some (.bool _) => Q (.d (.bool false)) st
  | _, _ => False
end
end Pz
set_option maxRecDepth 100000
namespace Pz
open PySem PySem.Spec PyProof.Rows L2 TL
variable [PenC]
section
variable {X : Cx} {E : WXs} {Z0 : Zs} {K : Frag} {e ob ix : Expr} {te to ti ta tb : DE} {pos tpos : Pos}
def oIxS (s t : Sl) (st : Sto) (Q : DK) : Prop := match s with
  | .o h => match st[h]? with
    | some (.lsS xs) => match vw st t with
      | some (.int i) => match atI xs i with
        | some x => Q x st
        | none => False
      | _ => False
    | _ => oIxE s t st Q
  | _ => oIxE s t st Q
def wSetIxO (te to ti : DE) : DS := fun D sl st => te D.ex sl st fun v st => to D.ex sl st fun o st => ti D.ex sl st fun i st => match o, i with
  | .o h, .d (.int j) => match st[h]? with
    | some (.lst ds) => match ixN ds.length j with
      | some n => D.nx sl (st.set h (.lsS ((ds.map Sl.d).set n v)))
      | none => False
    | some (.lsS xs) => match ixN xs.length j with
      | some n => D.nx sl (st.set h (.lsS (xs.set n v)))
      | none => False
    | _ => False
  | _, _ => False
def frz1 (j : Nat) (ds : List PyData) : Sl → Sl
  | .o k => if k = j then .d (.list ds) else .o k
  | s => s
def wClose (n0 i : Nat) (u : DS) : DS := fun D sl st => match nthS sl i with
  | some (.o h) => match st[h]? with
    | some (.lsS xs) => ∃ (j : Nat) (ds ys : List PyData), n0 ≤ j ∧ st[j]? = some (.lst ds) ∧ xs.map (frz1 j ds) = ys.map Sl.d ∧ (∀ c ∈ st.set h .dead, NoRef j c) ∧ u D (sl.map (frzS j ds)) ((st.set j .dead).set h (.lst ys))
    | _ => u D sl st
  | _ => u D sl st
theorem wClose_ap {n0 i : Nat} {u : DS} {nx bk ct : Sls → Sto → Prop} {rt : DK} {ex : DX} {sl : Sls} {st : Sto} : wClose n0 i u ⟨nx, rt, ex, bk, ct⟩ sl st = (match nthS sl i with
  | some (.o h) => match st[h]? with
    | some (.lsS xs) => ∃ (j : Nat) (ds ys : List PyData), n0 ≤ j ∧ st[j]? = some (.lst ds) ∧ xs.map (frz1 j ds) = ys.map Sl.d ∧ (∀ c ∈ st.set h .dead, NoRef j c) ∧ u ⟨nx, rt, ex, bk, ct⟩ (sl.map (frzS j ds)) ((st.set j .dead).set h (.lst ys))
    | _ => u ⟨nx, rt, ex, bk, ct⟩ sl st
  | _ => u ⟨nx, rt, ex, bk, ct⟩ sl st) := rfl
theorem wSetIxO_ap {te to ti : DE} {nx bk ct : Sls → Sto → Prop} {rt : DK} {ex : DX} {sl : Sls} {st : Sto} : wSetIxO te to ti ⟨nx, rt, ex, bk, ct⟩ sl st = (te ex sl st fun v st => to ex sl st fun o st => ti ex sl st fun i st => match o, i with
  | .o h, .d (.int j) => match st[h]? with
    | some (.lst ds) => match ixN ds.length j with
      | some n => nx sl (st.set h (.lsS ((ds.map Sl.d).set n v)))
      | none => False
    | some (.lsS xs) => match ixN xs.length j with
      | some n => nx sl (st.set h (.lsS (xs.set n v)))
      | none => False
    | _ => False
  | _, _ => False) := rfl
theorem oIxS_ap {s t : Sl} {st : Sto} {Q : DK} : oIxS s t st Q = (match s with
  | .o h => match st[h]? with
    | some (.lsS xs) => match vw st t with
      | some (.int i) => match atI xs i with
        | some x => Q x st
        | none => False
      | _ => False
    | _ => oIxE s t st Q
  | _ => oIxE s t st Q) := rfl
end
end Pz
set_option maxRecDepth 100000
set_option maxHeartbeats 2000000
namespace PySem
namespace Xc
open PySem.W PySem.Calls PyProof.Rows PySem.HandSPX
def iA3 (f1 f2 f3 : Str) (p1 p2 p3 p4 : Pos) : Arguments := { posonlyargs := [], args := [{ arg := "self", annotation := none, pos := p1 }, { arg := f1, annotation := none, pos := p2 }, { arg := f2, annotation := none, pos := p3 }, { arg := f3, annotation := none, pos := p4 }], vararg := none, kwonlyargs := [], kw_defaults := [], kwarg := none, defaults := [] }
def iB3 (f1 f2 f3 : Str) (q1 q2 q3 q4 r1 r2 r3 r4 s1 s2 s3 s4 : Pos) : List Stmt := [.Assign [.Attribute (.Name "self" q1) f1 q2] (.Name f1 q3) q4, .Assign [.Attribute (.Name "self" r1) f2 r2] (.Name f2 r3) r4, .Assign [.Attribute (.Name "self" s1) f3 s2] (.Name f3 s3) s4]
def iS3 (f1 f2 f3 : Str) : Scope := { kind := .function, names := [(PySem.Str.ofString "self", .local), (f1, .local), (f2, .local), (f3, .local)], isGenerator := false, isCoroutine := false, more := [] }
structure Txt3 (B newId initId : String) (bmB : List Value) (f1 f2 f3 qn : Str) (K : Frag) (C fI : Addr) : Prop where
  cls : ∃ nm q N bs bm sn sub ab col dd k0 k1 k2 k3 k5, K.lookup C = some (excClassObj nm q C N bs bm true sn sub ab col dd k0 k1 k2 k3 k5 newId) ∧ refsT bmB bm = true
  sa : findIn K (.ref C) "__setattr__" = some (some (.builtin "object.__setattr__"))
  noN1 : findIn K (.ref C) f1 = some none
  noN2 : findIn K (.ref C) f2 = some none
  noN3 : findIn K (.ref C) f3 = some none
  iC : findIn K (.ref C) "__init__" = some (some (.ref fI))
  tC : typeIn K (.ref fI) = some (.type "function")
  kC : keepIn K (.ref C) = true
  exC : subIn K (.ref C) (.type "BaseException") = some true
  tyC : typeIn K (.ref C) = some (.type "type")
  fn : ∃ (oc : Value) (od : Option Addr) (doc pm : Value) (an : Option Addr) (cdv ct : Value) (osl : Array (Option Value)) (p1 p2 p3 p4 q1 q2 q3 q4 r1 r2 r3 r4 s1 s2 s3 s4 : Pos),
    K.lookup fI = some ⟨oc, od, .func (fnOf "__init__" qn (iA3 f1 f2 f3 p1 p2 p3 p4) (iB3 f1 f2 f3 q1 q2 q3 q4 r1 r2 r3 r4 s1 s2 s3 s4) (iS3 f1 f2 f3) .none .none doc pm an cdv ct), osl⟩ ∧ codeIn K cdv qn = true
section
variable {prog : Program} {w : World} {A : Around} {E : Value → Shared → Prop} {R : Result → Shared → Prop} {hp : Heap} {g : Array GenState} {d : Drawn} {t : Nat} {os : OsState} {B newId initId ow : String} {bmB : List Value}
end
def nsM3 (f1 f2 f3 : Str) (v1 v2 v3 : Value) : Str → Option Value := fun y => if y = f3 then some v3 else if y = f2 then some v2 else if y = f1 then some v1 else none
structure InitEnd3 (h h' : Heap) (x C dx t1 : Addr) (f1 f2 f3 : Str) (v1 v2 v3 : Value) : Prop where
  keep : ∀ b o, b ≠ x → h.get? b = some o → h'.get? b = some o
  obj : h'.get? x = some { cls := .ref C, dict := some dx, data := .fields #[.ref t1, .none, .none, .none, .bool false, .none] }
  dbig : h.objs.size ≤ dx
  dne : dx ≠ x
  ns : h'.Ns1 dx (nsM3 f1 f2 f3 v1 v2 v3)
structure OwnMade3 (h h' : Heap) (e C d : Addr) (f1 f2 f3 : Str) (v1 v2 v3 : Value) : Prop where
  keep : ∀ b o, h.get? b = some o → h'.get? b = some o
  new : h.objs.size ≤ e
  obj : ∃ oe vs, h'.get? e = some oe ∧ oe.cls = .ref C ∧ oe.dict = some d ∧ oe.data = .fields vs ∧ vs[1]? = some .none
  dbig : h.objs.size ≤ d
  dne : d ≠ e
  ns : h'.Ns1 d (nsM3 f1 f2 f3 v1 v2 v3)
def InitRun3 (B newId initId : String) (bmB : List Value) (f1 f2 f3 qn : Str) (K : Frag) (C fI : Addr) : Prop := ∀ (prog : Program) (w : World) (A : Around) (R : Result → Shared → Prop) (s : Shared) (x t0 : Addr) (v1 v2 v3 : Value), Txt3 B newId initId bmB f1 f2 f3 qn K C fI → K.In s.heap → s.heap.NoLimit → s.heap.get? x = some (excO C t0) → K.lookup x = none → A.depth < recursionLimit →
    (∀ h' tk dx, InitEnd3 s.heap h' x C dx t0 f1 f2 f3 v1 v2 v3 → R (.ok (.ret .none)) { s with heap := h', toks := tk }) → codeAny (model prog w) A (.call (.ref fI) ⟨[.ref x, v1, v2, v3], []⟩) R s
section
variable {K : Frag} {C fI : Addr} {B newId initId ow : String} {bmB : List Value} {qn : Str}
end
section
variable {prog : Program} {w : World} {A : Around} {E : Value → Shared → Prop} {R : Result → Shared → Prop} {s : Shared} {K : Frag} {C fI : Addr} {B newId initId : String} {bmB : List Value} {f1 f2 f3 qn : Str}
end
end Xc
end PySem
namespace L2
open PySem PySem.Spec PyProof.Rows
def m3L (f1 f2 f3 : Str) (v1 v2 v3 : V) : List (Str × V) := [(f3, v3), (f2, v2), (f1, v1)]
section
variable {X : Cx} {C fI : Addr} {B newId initId : String} {bmB : List Value} {f1 f2 f3 qn x : Str}
def tMk3 (f1 f2 f3 : Str) (C : Addr) (ta : TA) : St → Hp → XK → Prop := fun σ H Q => ta σ H fun vs H1 => ∃ v1 v2 v3, vs = [v1, v2, v3] ∧ ∀ d, H1 d = none → Q (.ref C) (some d) (upd H1 d (.xd (m3L f1 f2 f3 v1 v2 v3)))
end
end L2
set_option maxRecDepth 100000
namespace Pz
open PySem PySem.Spec PyProof.Rows L2 TL
variable [PenC]
section
variable {X : Cx} {E : WXs} {Z0 : Zs} {x f1 f2 f3 : Str} {p pos pos' : Pos} {a b c : Expr} {t : DA} {k : Nat}
def wRaise3 (x f1 f2 f3 : Str) (t : DA) : DS := fun D sl st => t D.ex sl st fun ss st => match ss with
  | [.d y1, .d y2, .d y3] => D.ex x [(f3, y3), (f2, y2), (f1, y1)] sl st
  | _ => False
theorem wRaise3_ap {nx bk ct : Sls → Sto → Prop} {rt : DK} {ex : DX} {sl : Sls} {st : Sto} : wRaise3 x f1 f2 f3 t ⟨nx, rt, ex, bk, ct⟩ sl st = (t ex sl st fun ss st => match ss with
  | [.d y1, .d y2, .d y3] => ex x [(f3, y3), (f2, y2), (f1, y1)] sl st
  | _ => False) := rfl
def Mk3 (K : Frag) (mg : Str → Option Value) (x f1 f2 f3 : Str) : Prop := ∃ (C fI : Addr) (B newId initId : String) (bmB : List Value) (qn : Str), mg x = some (.ref C) ∧ ClsV K x (.ref C) ∧ ExcBaseFacts B newId initId bmB ∧ PySem.Xc.InitRun3 B newId initId bmB f1 f2 f3 qn K C fI ∧ PySem.Xc.Txt3 B newId initId bmB f1 f2 f3 qn K C fI
end
def Mk3K (K : Frag) (x f1 f2 f3 : Str) : Prop := ∃ (C fI : Addr) (B newId initId : String) (bmB : List Value) (qn : Str), PySem.W.nsIn K mainGlobals x = some (some (.ref C)) ∧ ExcBaseFacts B newId initId bmB ∧ PySem.Xc.InitRun3 B newId initId bmB f1 f2 f3 qn K C fI ∧ PySem.Xc.Txt3 B newId initId bmB f1 f2 f3 qn K C fI
theorem Mk3K.to {K : Frag} {h : Heap} {mg : Str → Option Value} {x f1 f2 f3 : Str} (R : Mk3K K x f1 f2 f3) (X : K.In h) (G : h.Ns mainGlobals mg) : Mk3 K mg x f1 f2 f3 := by
  obtain ⟨C, fI, B, a, b, bm, qn, e, h1, h2, h3⟩ := R
  exact ⟨C, fI, B, a, b, bm, qn, PySem.W.mg_of X G e, e, h1, h2, h3⟩
end Pz
set_option maxRecDepth 100000
set_option maxHeartbeats 2000000
namespace L2
open PySem PySem.Spec PyProof.Rows
def rRepT1 (K : PySem.W.Frag) : R2 := fun x y H Q => ∃ l xs, x = .ref l ∧ y = .int 1 ∧ SqT K H l xs ∧ Q x H
def rRepT0 (K : PySem.W.Frag) : R2 := fun x y H Q => ∃ l k xs, x = .ref l ∧ y = .int k ∧ SqT K H l xs ∧ xs ≠ [] ∧ k ≤ 0 ∧ -1000 ≤ k ∧ ∀ p, H p = none → Q (.ref p) (upd H p (.tup []))
section
variable {X : Cx}
end
end L2
namespace Pz
open PySem PySem.Spec PyProof.Rows L2 TL
variable [PenC]
def oMulT (x y : Sl) (st : Sto) (Q : DK) : Prop := match vw st x, vw st y with
  | some (.tuple a), some (.int j) => a ≠ [] ∧ -1000 ≤ j ∧ j ≤ 1000 ∧ a.length ≤ 1000 ∧ Q (.d (.tuple (List.replicate j.toNat a).flatten)) st
  | _, _ => oMul x y st Q
def rMulT (K : Frag) : R2 := fun x y H Q => rRepT K x y H Q ∨ rRepT1 K x y H Q ∨ rRepT0 K x y H Q ∨ rMul x y H Q
theorem oMulT_ap {x y : Sl} {st : Sto} {Q : DK} : oMulT x y st Q = (match vw st x, vw st y with
  | some (.tuple a), some (.int j) => a ≠ [] ∧ -1000 ≤ j ∧ j ≤ 1000 ∧ a.length ≤ 1000 ∧ Q (.d (.tuple (List.replicate j.toNat a).flatten)) st
  | _, _ => oMul x y st Q) := rfl
end Pz
set_option maxRecDepth 100000
namespace Pz
open PySem PySem.Spec PyProof.Rows L2 TL PySem.W
variable [PenC]
def DLs (h : Heap) (a : Addr) (ks vs : List V) : Prop := ∃ (o : Obj) (es : Array DictEntry) (ep : Nat), h.get? a = some o ∧ o.ExactDict ∧ o.data = .dict es ep ∧ (a == sysModules) = false ∧ Vals ks (es.toList.map (·.key)) ∧ Vals vs (es.toList.map (·.val)) ∧ es.size ≤ sizeLine
section
variable {P : Program} {w : World} {H : Hp} {h : Heap} {a : Addr} {X : Cx} {pins : List (Addr × Obj)} {σ : L2.St} {s : Shared}
end
section
variable {X : Cx}
def IsDV (H : Hp) (d : Addr) (vs : List V) : Prop := (∃ kvs : List (Key × V), Rd H d (.dK kvs) ∧ vs = kvs.map (·.2)) ∨ ∃ kvs : List (List Key × V), Rd H d (.dT kvs) ∧ vs = kvs.map (·.2)
def rListV : List V → Hp → VK → Prop := fun xs H Q => ∃ (p d : Addr) (vs : List V), xs = [.ref p] ∧ H p = some (viewO "dict_values" p d) ∧ IsDV H d vs ∧ ∀ q, H q = none → Q (.ref q) (upd H q (.lst vs))
def rSumV : List V → Hp → VK → Prop := fun xs H Q => ∃ (p d : Addr) (ns : List Int), xs = [.ref p] ∧ H p = some (viewO "dict_values" p d) ∧ IsDV H d (ns.map V.int) ∧ Q (.int ns.sum) H
end
end Pz
set_option maxRecDepth 100000
namespace Pz
open PySem PySem.Spec PyProof.Rows L2 TL PySem.W
variable [PenC]
section
variable {κ : Type} [DecidableEq κ]
def valG (kvs : List (κ × PyData)) (k : κ) : Option PyData := (kvs.find? fun kv => decide (kv.1 = k)).map (·.2)
def putG (kvs : List (κ × PyData)) (k : κ) (d : PyData) : List (κ × PyData) := if (kvs.any fun kv => decide (kv.1 = k)) = true then kvs.map fun kv => if kv.1 = k then (kv.1, d) else kv else kvs ++ [(k, d)]
def ImKG (K : Frag) (W : Addr → Prop) (H : Hp) (us : List (κ × V)) (kvs : List (κ × PyData)) : Prop := us.map (·.1) = kvs.map (·.1) ∧ ImAll K W H (us.map (·.2)) (kvs.map (·.2))
variable {K : Frag} {W : Addr → Prop} {H : Hp}
theorem ImKG.nil : ImKG K W H ([] : List (κ × V)) [] := ⟨rfl, .nil⟩
theorem ImKG.inv {us : List (κ × V)} {kvs : List (κ × PyData)} (h : ImKG K W H us kvs) : (us = [] ∧ kvs = []) ∨ ∃ k v d us' kvs', us = (k, v) :: us' ∧ kvs = (k, d) :: kvs' ∧ Im K W H v d ∧ ImKG K W H us' kvs' := by
  obtain ⟨h1, h2⟩ := h
  cases us with
  | nil => cases kvs with
    | nil => exact .inl ⟨rfl, rfl⟩
    | cons _ _ => cases h1
  | cons u us => cases kvs with
    | nil => cases h1
    | cons kv kvs =>
      obtain ⟨k, v⟩ := u
      obtain ⟨k', d⟩ := kv
      simp only [List.map_cons, List.cons.injEq] at h1
      obtain ⟨rfl, h1⟩ := h1
      cases h2 with
      | cons q r => exact .inr ⟨k, v, d, us, kvs, rfl, rfl, q, h1, r⟩
theorem ImKG.cons {k : κ} {v : V} {d : PyData} {us : List (κ × V)} {kvs : List (κ × PyData)} (q : Im K W H v d) (h : ImKG K W H us kvs) : ImKG K W H ((k, v) :: us) ((k, d) :: kvs) := ⟨by rw [List.map_cons, List.map_cons, h.1], .cons q h.2⟩
theorem ImKG.app {us us' : List (κ × V)} {kvs kvs' : List (κ × PyData)} (h : ImKG K W H us kvs) (h' : ImKG K W H us' kvs') : ImKG K W H (us ++ us') (kvs ++ kvs') := ⟨by rw [List.map_append, List.map_append, h.1, h'.1], by rw [List.map_append, List.map_append]; exact h.2.append h'.2⟩
theorem ImKG.any {k : κ} : ∀ {us : List (κ × V)} {kvs : List (κ × PyData)}, ImKG K W H us kvs → (us.any fun kv => decide (kv.1 = k)) = (kvs.any fun kv => decide (kv.1 = k))
  | [], _, h => by rcases h.inv with ⟨_, rfl⟩ | ⟨_, _, _, _, _, e, _⟩; rfl; cases e
  | u :: us, _, h => by
    rcases h.inv with ⟨e, _⟩ | ⟨k', v, d, us', kvs', e, rfl, q, h'⟩
    · cases e
    · cases e
      rw [List.any_cons, List.any_cons, ImKG.any h']
theorem ImKG.val {k : κ} {d : PyData} : ∀ {us : List (κ × V)} {kvs : List (κ × PyData)}, ImKG K W H us kvs → valG kvs k = some d → ∃ v, valV us k = some v ∧ Im K W H v d
  | [], _, h, e => by rcases h.inv with ⟨_, rfl⟩ | ⟨_, _, _, _, _, e', _⟩; cases e; cases e'
  | u :: us, _, h, e => by
    rcases h.inv with ⟨e', _⟩ | ⟨k', v, d', us', kvs', e', rfl, q, h'⟩
    · cases e'
    · cases e'
      by_cases hk : k' = k
      · subst hk
        simp [valG] at e
        subst e
        exact ⟨v, by simp [valV], q⟩
      · have e2 : valG kvs' k = some d := by simpa [valG, hk] using e
        obtain ⟨v', h1, h2⟩ := ImKG.val h' e2
        exact ⟨v', by simpa [valV, hk] using h1, h2⟩
theorem ImKG.noval {k : κ} : ∀ {us : List (κ × V)} {kvs : List (κ × PyData)}, ImKG K W H us kvs → valG kvs k = none → valV us k = none
  | [], _, h, e => rfl
  | u :: us, _, h, e => by
    rcases h.inv with ⟨e', _⟩ | ⟨k', v, d', us', kvs', e', rfl, q, h'⟩
    · cases e'
    · cases e'
      by_cases hk : k' = k
      · subst hk
        simp [valG] at e
      · have e2 : valG kvs' k = none := by simpa [valG, hk] using e
        simpa [valV, hk] using ImKG.noval h' e2
theorem ImKG.mapK {k : κ} {v : V} {d : PyData} (q : Im K W H v d) : ∀ {us : List (κ × V)} {kvs : List (κ × PyData)}, ImKG K W H us kvs → ImKG K W H (us.map fun kv => if kv.1 = k then (kv.1, v) else kv) (kvs.map fun kv => if kv.1 = k then (kv.1, d) else kv)
  | [], _, h => by rcases h.inv with ⟨_, rfl⟩ | ⟨_, _, _, _, _, e', _⟩; exact .nil; cases e'
  | u :: us, _, h => by
    rcases h.inv with ⟨e', _⟩ | ⟨k', v', d', us', kvs', e', rfl, q', h'⟩
    · cases e'
    · cases e'
      have ih := ImKG.mapK (k := k) q h'
      rw [List.map_cons, List.map_cons]
      dsimp only
      split
      · exact .cons q ih
      · exact .cons q' ih
theorem ImKG.put {k : κ} {v : V} {d : PyData} (q : Im K W H v d) {us : List (κ × V)} {kvs : List (κ × PyData)} (h : ImKG K W H us kvs) : ImKG K W H (putK us k v) (putG kvs k d) := by
  unfold putK putG
  rw [h.any]
  split
  · exact h.mapK q
  · exact h.app (.cons q .nil)
theorem ImKG.len {us : List (κ × V)} {kvs : List (κ × PyData)} (h : ImKG K W H us kvs) : us.length = kvs.length := by
  have := congrArg List.length h.1
  simpa using this
theorem ImKG.tr {W' : Addr → Prop} {H' : Hp} (s : Stay W W' H H') {us : List (κ × V)} {kvs : List (κ × PyData)} (h : ImKG K W H us kvs) : ImKG K W' H' us kvs := ⟨h.1, ImAll.tr s h.2⟩
end
abbrev KTD := List (List Key × PyData)
def ktD (kvs : KTD) : List (PyData × PyData) := kvs.map fun p => (kyT p.1, p.2)
def keysL : List PyData → Option (List Key)
  | [] => some []
  | d :: r => match keyOf d, keysL r with
    | some k, some r => some (k :: r)
    | _, _ => none
def keyT : PyData → Option (List Key)
  | .tuple ds => keysL ds
  | _ => none
theorem keysL_keyD : ∀ ks : List Key, keysL (ks.map keyD) = some ks
  | [] => rfl
  | k :: r => by rw [List.map_cons, keysL, keyOf_keyD, keysL_keyD r]
theorem keyT_kyT (k : List Key) : keyT (kyT k) = some k := keysL_keyD k
def unTE : List (PyData × PyData) → Option KTD
  | [] => some []
  | (k, d) :: r => match keyT k, unTE r with
    | some k, some r => some ((k, d) :: r)
    | _, _ => none
def unKT : List (PyData × PyData) → Option KTD
  | (.none, .bool true) :: r => unTE r
  | _ => none
theorem unTE_ktD : ∀ kvs : KTD, unTE (ktD kvs) = some kvs
  | [] => rfl
  | (k, d) :: r => by
    show unTE ((kyT k, d) :: ktD r) = _
    rw [unTE, keyT_kyT, unTE_ktD r]
theorem unKT_ktD (kvs : KTD) : unKT (mkT :: ktD kvs) = some kvs := unTE_ktD kvs
section
variable {K : Frag} {W : Addr → Prop} {H : Hp} {Z : Zs}
def kyS (st : Sto) (s : Sl) : Option (List Key) := (vw st s).bind keyT
def dtAt (st : Sto) : Sl → Option KTD
  | .o h => match st[h]? with
    | some (.dT kvs) => some kvs
    | _ => none
  | .d (.dict l) => unKT l
  | _ => none
theorem dtAt_o {st : Sto} {h : Nat} : dtAt st (.o h) = (match st[h]? with
    | some (.dT kvs) => some kvs
    | _ => none) := rfl
def dkAny (st : Sto) : Sl → Option KD
  | .o h => match st[h]? with
    | some (.dK kvs) => some kvs
    | _ => none
  | .d (.dict l) => unKD l
  | _ => none
def dvAt (st : Sto) (s : Sl) : Option (List PyData) := match dkAny st s with
  | some kvs => some (kvs.map (·.2))
  | none => match dtAt st s with
    | some kvs => some (kvs.map (·.2))
    | none => none
end
theorem Rd.upd {H : Hp} {a p : Addr} {u o : HO} (h : Rd H a u) (n : H p = none) : Rd (upd H p o) a u := by
  have ne : a ≠ p := fun z => by subst z; rcases h with h | ⟨_, h⟩ <;> rw [n] at h <;> cases h
  rcases h with h | ⟨q, h⟩
  · exact .inl (by rw [upd_ne ne]; exact h)
  · exact .inr ⟨q, by rw [upd_ne ne]; exact h⟩
theorem IsDV.upd {H : Hp} {a p : Addr} {vs : List V} {o : HO} (h : IsDV H a vs) (n : H p = none) : IsDV (upd H p o) a vs := h.elim (fun ⟨k, e, q⟩ => .inl ⟨k, Rd.upd e n, q⟩) fun ⟨k, e, q⟩ => .inr ⟨k, Rd.upd e n, q⟩
section
variable {X : Cx} {E : WXs} {e : Expr} {te : DE} {td : TE} {apos cpos pos p : Pos}
def tVals (td : TE) : TE := fun σ H Q => td σ H fun x H1 => ∃ (a : Addr) (vs : List V), x = .ref a ∧ IsDV H1 a vs ∧ ∀ p, H1 p = none → Q (.ref p) (upd H1 p (viewO "dict_values" p a))
def wListV (te : DE) : DE := fun Ed sl st Q => te Ed sl st fun s st => match dvAt st s with
  | some ds => Q (.d (.list ds)) st
  | none => False
theorem wListV_ap {Ed : DX} {sl : Sls} {st : Sto} {Q : DK} : wListV te Ed sl st Q = (te Ed sl st fun s st => match dvAt st s with
  | some ds => Q (.d (.list ds)) st
  | none => False) := rfl
def wSumV (te : DE) : DE := fun Ed sl st Q => te Ed sl st fun s st => match dvAt st s with
  | some ds => ∃ ns : List Int, ds = ns.map .int ∧ Q (.d (.int ns.sum)) st
  | none => False
theorem wSumV_ap {Ed : DX} {sl : Sls} {st : Sto} {Q : DK} : wSumV te Ed sl st Q = (te Ed sl st fun s st => match dvAt st s with
  | some ds => ∃ ns : List Int, ds = ns.map .int ∧ Q (.d (.int ns.sum)) st
  | none => False) := rfl
end
end Pz
set_option maxRecDepth 100000
namespace Pz
open PySem PySem.Spec PyProof.Rows L2 TL PySem.W
variable [PenC]
section
variable {X : Cx} {E : WXs} {Z0 : Zs} {a b c e o f : Expr} {ta tb tc te ti to td ty tx : DE} {pos apos cpos : Pos} {K : Frag}
def oTGet (s t : Sl) (st : Sto) (Q : DK) : Prop := match dtAt st s, kyS st t with
  | some kvs, some k => ∃ d, valG kvs k = some d ∧ Q (.d d) st
  | _, _ => False
def dinS (st : Sto) (s t : Sl) : Option Bool := match dkAny st t with
  | some kvs => (keyS st s).map fun k => (valG kvs k).isSome
  | none => match dtAt st t with
    | some kvs => (kyS st s).map fun k => (valG kvs k).isSome
    | none => none
def wDIn (neg : Bool) (ta tb : DE) : DE := fun Ed sl st Q => ta Ed sl st fun s st => tb Ed sl st fun t st => match dinS st s t with
  | some b => Q (.d (.bool (b != neg))) st
  | none => False
theorem wDIn_ap {neg : Bool} {Ed : DX} {sl : Sls} {st : Sto} {Q : DK} : wDIn neg ta tb Ed sl st Q = (ta Ed sl st fun s st => tb Ed sl st fun t st => match dinS st s t with
  | some b => Q (.d (.bool (b != neg))) st
  | none => False) := rfl
def wTGet2 (td ty tx : DE) : DE := fun Ed sl st Q => td Ed sl st fun s st => (dtAt st s).isSome = true ∧ ty Ed sl st fun t st => tx Ed sl st fun u st => match dtAt st s, kyS st t with
  | some kvs, some k => match valG kvs k with
    | some d => Q (.d d) st
    | none => Q u st
  | _, _ => False
theorem wTGet2_ap {Ed : DX} {sl : Sls} {st : Sto} {Q : DK} : wTGet2 td ty tx Ed sl st Q = (td Ed sl st fun s st => (dtAt st s).isSome = true ∧ ty Ed sl st fun t st => tx Ed sl st fun u st => match dtAt st s, kyS st t with
  | some kvs, some k => match valG kvs k with
    | some d => Q (.d d) st
    | none => Q u st
  | _, _ => False) := rfl
def wTPut (te to ti : DE) : DS := fun D sl st => te D.ex sl st fun v st => to D.ex sl st fun o st => ti D.ex sl st fun i st => match o, v, kyS st i with
  | .o h, .d y, some k => match st[h]? with
    | some (.dT kvs) => kvs.length < sizeLine ∧ D.nx sl (st.set h (.dT (putG kvs k y)))
    | _ => False
  | _, _, _ => False
theorem wTPut_ap {nx bk ct : Sls → Sto → Prop} {rt : DK} {ex : DX} {sl : Sls} {st : Sto} : wTPut te to ti ⟨nx, rt, ex, bk, ct⟩ sl st = (te ex sl st fun v st => to ex sl st fun o st => ti ex sl st fun i st => match o, v, kyS st i with
  | .o h, .d y, some k => match st[h]? with
    | some (.dT kvs) => kvs.length < sizeLine ∧ nx sl (st.set h (.dT (putG kvs k y)))
    | _ => False
  | _, _, _ => False) := rfl
def wDAug (f : Sl → Sl → Sto → DK → Prop) (to ti te : DE) : DS := fun D sl st => to D.ex sl st fun o st => ti D.ex sl st fun i st => match o, keyS st i with
  | .o h, some k => match st[h]? with
    | some (.dK kvs) => ∃ d, valD kvs k = some d ∧ te D.ex sl st fun y st2 => st2 = st ∧ f (.d d) y st fun z st3 => match z with
      | .d z => st3 = st ∧ kvs.length < sizeLine ∧ D.nx sl (st.set h (.dK (putD kvs k z)))
      | _ => False
    | _ => False
  | _, _ => False
theorem wDAug_ap {f : Sl → Sl → Sto → DK → Prop} {nx bk ct : Sls → Sto → Prop} {rt : DK} {ex : DX} {sl : Sls} {st : Sto} : wDAug f to ti te ⟨nx, rt, ex, bk, ct⟩ sl st = (to ex sl st fun o st => ti ex sl st fun i st => match o, keyS st i with
  | .o h, some k => match st[h]? with
    | some (.dK kvs) => ∃ d, valD kvs k = some d ∧ te ex sl st fun y st2 => st2 = st ∧ f (.d d) y st fun z st3 => match z with
      | .d z => st3 = st ∧ kvs.length < sizeLine ∧ nx sl (st.set h (.dK (putD kvs k z)))
      | _ => False
    | _ => False
  | _, _ => False) := rfl
end
end Pz
set_option maxRecDepth 100000
namespace Pz
open PySem PySem.Spec PyProof.Rows L2 TL PySem.W
variable [PenC]
section
variable {X : Cx} {E : WXs} {Z0 : Zs} {K : Frag} {rest : List Stmt} {u : DS}
def wFrzL (n0 i : Nat) (u : DS) : DS := fun D sl st => match nthS sl i with
  | some (.o h) => match st[h]? with
    | some (.dK kvs) => n0 ≤ h ∧ (∀ c ∈ st, NoRef h c) ∧ u D (sl.map (frzX h (.dict (mkK :: kdD kvs)))) (st.set h .dead)
    | some (.dT kvs) => n0 ≤ h ∧ (∀ c ∈ st, NoRef h c) ∧ u D (sl.map (frzX h (.dict (mkT :: ktD kvs)))) (st.set h .dead)
    | _ => False
  | _ => u D sl st
theorem wFrzL_ap {n0 i : Nat} {u : DS} {nx bk ct : Sls → Sto → Prop} {rt : DK} {ex : DX} {sl : Sls} {st : Sto} : wFrzL n0 i u ⟨nx, rt, ex, bk, ct⟩ sl st = (match nthS sl i with
  | some (.o h) => match st[h]? with
    | some (.dK kvs) => n0 ≤ h ∧ (∀ c ∈ st, NoRef h c) ∧ u ⟨nx, rt, ex, bk, ct⟩ (sl.map (frzX h (.dict (mkK :: kdD kvs)))) (st.set h .dead)
    | some (.dT kvs) => n0 ≤ h ∧ (∀ c ∈ st, NoRef h c) ∧ u ⟨nx, rt, ex, bk, ct⟩ (sl.map (frzX h (.dict (mkT :: ktD kvs)))) (st.set h .dead)
    | _ => False
  | _ => u ⟨nx, rt, ex, bk, ct⟩ sl st) := rfl
end
end Pz
set_option maxRecDepth 100000
namespace Pz
open PySem PySem.Spec PyProof.Rows L2 TL PySem.W
variable [PenC]
def DLo (o : Obj) (ks vs : List V) : Prop := ∃ (es : Array DictEntry) (ep : Nat), o.ExactDict ∧ o.data = .dict es ep ∧ Vals ks (es.toList.map (·.key)) ∧ Vals vs (es.toList.map (·.val))
section
variable {X : Cx} {pins : List (Addr × Obj)} {σ : L2.St} {H : Hp} {s : Shared} {d : Addr} {o : Obj}
end
def ItDV (d : Addr) (o : Obj) (u : HO) (vs : List V) : It :=
  ⟨fun i H => H d = some (.frz o u) ∧ i < vs.length, fun i H x H' => H' = H ∧ vs[i]? = some x, fun i H => H d = some (.frz o u) ∧ vs.length ≤ i⟩
def ItDI (d : Addr) (o : Obj) (u : HO) (ks vs : List V) : It :=
  ⟨fun i H => H d = some (.frz o u) ∧ i < vs.length, fun i H x H' => ∃ T k v, ks[i]? = some k ∧ vs[i]? = some v ∧ x = .ref T ∧ H T = none ∧ H' = upd H T (.tup [k, v]), fun i H => H d = some (.frz o u) ∧ vs.length ≤ i⟩
section
variable {P : Program} {w : World} {K : Frag} {d : Addr} {o : Obj} {u : HO} {ks vs : List V} {es : Array DictEntry} {ep : Nat}
end
section
variable {X : Cx} {E : WXs} {tg e : Expr} {td : TE} {te : DE} {apos cpos : Pos} {K : Frag}
def LkAt (H : Hp) (x : V) (d : Addr) (o : Obj) (u : HO) (vs : List V) : Prop := x = .ref d ∧ H d = some (.frz o u) ∧ ((∃ kvs : List (Key × V), u = .dK kvs ∧ vs = kvs.map (·.2)) ∨ ∃ kvs : List (List Key × V), u = .dT kvs ∧ vs = kvs.map (·.2))
def KsOf (H : Hp) (u : HO) (ks : List V) : Prop := (∃ kvs : List (Key × V), u = .dK kvs ∧ ks = kvs.map fun p => kV p.1) ∨ ∃ (kvs : List (List Key × V)) (bs : List Addr), u = .dT kvs ∧ L2.IsKeys H kvs bs ∧ ks = bs.map V.ref
def LkAtV (H : Hp) (x : V) (d : Addr) (o : Obj) (u : HO) (vs : List V) : Prop := LkAt H x d o u vs ∨ (x = .ref d ∧ H d = some (.frz o u) ∧ ∃ kvs : List (Option Int × V), u = NdO kvs d ∧ vs = kvs.map (·.2))
theorem LkAtV.x {H : Hp} {x : V} {d : Addr} {o : Obj} {u : HO} {vs : List V} (h : LkAtV H x d o u vs) : x = .ref d ∧ H d = some (.frz o u) := h.elim (fun q => ⟨q.1, q.2.1⟩) fun q => ⟨q.1, q.2.1⟩
def iDV (td : TE) : TI := fun σ H R => td σ H fun x H1 => ∃ d o u vs, LkAtV H1 x d o u vs ∧ R (ItDV d o u vs) H1
def iDI (td : TE) : TI := fun σ H R => td σ H fun x H1 => ∃ d o u vs, LkAt H1 x d o u vs ∧ ∀ ks, KsOf H1 u ks → R (ItDI d o u ks vs) H1
def lkP : Sl → Option (List (PyData × PyData))
  | .d (.dict ((.none, .bool _) :: r)) => some r
  | _ => none
theorem lkP_K {r : List (PyData × PyData)} : lkP (.d (.dict (mkK :: r))) = some r := rfl
theorem lkP_T {r : List (PyData × PyData)} : lkP (.d (.dict (mkT :: r))) = some r := rfl
def lkV : Sl → Option (List (PyData × PyData))
  | .d (.dict ((.none, .bool _) :: r)) => some r
  | .d (.dict ((.none, .none) :: r)) => some r
  | _ => none
theorem lkV_K {r : List (PyData × PyData)} : lkV (.d (.dict (mkK :: r))) = some r := rfl
theorem lkV_T {r : List (PyData × PyData)} : lkV (.d (.dict (mkT :: r))) = some r := rfl
theorem lkV_N {r : List (PyData × PyData)} : lkV (.d (.dict (mkN :: r))) = some r := rfl
def wItV (te : DE) : DI := fun Ed sl st Q => te Ed sl st fun s st => match lkV s with
  | some ps => Q (ps.map (·.2)) st
  | none => False
theorem wItV_ap {Ed : DX} {sl : Sls} {st : Sto} {Q : List PyData → Sto → Prop} : wItV te Ed sl st Q = (te Ed sl st fun s st => match lkV s with
  | some ps => Q (ps.map (·.2)) st
  | none => False) := rfl
def wItI (te : DE) : DI := fun Ed sl st Q => te Ed sl st fun s st => match lkP s with
  | some ps => Q (ps.map fun p => .tuple [p.1, p.2]) st
  | none => False
theorem wItI_ap {Ed : DX} {sl : Sls} {st : Sto} {Q : List PyData → Sto → Prop} : wItI te Ed sl st Q = (te Ed sl st fun s st => match lkP s with
  | some ps => Q (ps.map fun p => .tuple [p.1, p.2]) st
  | none => False) := rfl
def wItK (te : DE) : DI := fun Ed sl st Q => te Ed sl st fun s st => match lkP s with
  | some ps => Q (ps.map (·.1)) st
  | none => False
theorem wItK_ap {Ed : DX} {sl : Sls} {st : Sto} {Q : List PyData → Sto → Prop} : wItK te Ed sl st Q = (te Ed sl st fun s st => match lkP s with
  | some ps => Q (ps.map (·.1)) st
  | none => False) := rfl
end
end Pz
set_option maxRecDepth 100000
namespace Pz
open PySem PySem.Spec PyProof.Rows L2 TL PySem.W
variable [PenC]
section
variable {X : Cx} {E : WXs} {ke ve : Expr} {tk tv : TE} {dk dv : DE} {pos : Pos} {K : Frag}
def tDisp1 (tk tv : TE) : TE := fun σ H Q => ∀ p, H p = none → tk σ (upd H p (.dT [])) fun x H1 => tv σ H1 fun y H2 => H2 p = some (.dT []) ∧ ∃ (k : List Key) (b : Addr), x = .ref b ∧ H2 b = some (.tup (k.map kV)) ∧ Q (.ref p) (upd H2 p (.dT [(k, y)]))
def wDisp1 (tk tv : DE) : DE := fun Ed sl st Q => tk Ed sl (st ++ [.dT []]) fun s st1 => tv Ed sl st1 fun t st2 => match kyS st2 s, t with
  | some k, .d y => st2[st.length]? = some (.dT []) ∧ Q (.o st.length) (st2.set st.length (.dT [(k, y)]))
  | _, _ => False
theorem wDisp1_ap {Ed : DX} {sl : Sls} {st : Sto} {Q : DK} : wDisp1 dk dv Ed sl st Q = (dk Ed sl (st ++ [.dT []]) fun s st1 => dv Ed sl st1 fun t st2 => match kyS st2 s, t with
  | some k, .d y => st2[st.length]? = some (.dT []) ∧ Q (.o st.length) (st2.set st.length (.dT [(k, y)]))
  | _, _ => False) := rfl
theorem key_reads2 {h : Heap} {k : Key} {u : Value} (a : L2.RelV (kV k) u) : Reads h u (keyD k) [] := by
  cases k with
  | inl i => obtain ⟨t, rfl⟩ := a; exact .int i t
  | inr x => obtain ⟨t, rfl⟩ := a; exact .str x t
theorem keys_reads2 {h : Heap} : ∀ {ks : List Key} {us : List Value}, Vals (ks.map kV) us → ReadsAll h us (ks.map keyD) []
  | [], _, r => by cases r; exact .nil
  | k :: ks, _, r => by
    cases r with
    | cons a b => exact .cons (as := []) (bs := []) (key_reads2 a) (keys_reads2 b)
theorem kyT_reads {pins : List (Addr × Obj)} {σ : L2.St} {H : Hp} {s : Shared} (I : Inv X pins σ H s) {b : Addr} {k : List Key} (e : H b = some (.tup (k.map kV))) : Reads s.heap (.ref b) (kyT k) [] := by
  obtain ⟨_, its, r, o, h1, h2, n, h3⟩ := (show L2.ObjOk X.prog X.w H s.heap b (.tup (k.map kV)) from I.hok b _ e)
  exact .tuple h1 h2 h3 (by simpa using keys_reads2 r)
def IsKy (H : Hp) (x : V) (d : PyData) : Prop := (∃ k : Key, x = kV k ∧ d = keyD k) ∨ ∃ (k : List Key) (b : Addr), x = .ref b ∧ H b = some (.tup (k.map kV)) ∧ d = kyT k
theorem IsKy.reads {pins : List (Addr × Obj)} {σ : L2.St} {H : Hp} {s : Shared} (I : Inv X pins σ H s) {x : V} {d : PyData} {u : Value} (h : IsKy H x d) (r : L2.RelV x u) : Reads s.heap u d [] := by
  rcases h with ⟨k, rfl, rfl⟩ | ⟨k, b, rfl, e, rfl⟩
  · exact key_reads2 r
  · cases r; exact kyT_reads I e
def DKy (H : Hp) (d : Addr) (kd : List PyData) : Prop := (∃ kvs : List (Key × V), Rd H d (.dK kvs) ∧ kd = kvs.map fun p => keyD p.1) ∨ ∃ kvs : List (List Key × V), Rd H d (.dT kvs) ∧ kd = kvs.map fun p => kyT p.1
def rListKy : List V → Hp → VK → Prop := fun xs H Q => ∃ (d : Addr) (kd : List PyData), xs = [.ref d] ∧ DKy H d kd ∧ ∀ q ks, H q = none → Paired (IsKy H) ks kd → Q (.ref q) (upd H q (.lst ks))
def IsV (H : Hp) (u : Value) (d : PyData) : Prop := ∃ v, L2.RelV v u ∧ IsKy H v d
def rSortKy : List V → Hp → VK → Prop := fun xs H Q => ∃ (d : Addr) (kd : List PyData), xs = [.ref d] ∧ DKy H d kd ∧ AllAlike kd ∧ (Sortable kd ∨ kd = [.tuple []]) ∧ (∀ d ∈ kd, d.depth ≤ 50) ∧ ∀ q ks, H q = none → Paired (IsKy H) ks (dsort kd) → Q (.ref q) (upd H q (.lst ks))
end
end Pz
set_option maxRecDepth 100000
namespace Pz
open PySem PySem.Spec PyProof.Rows L2 TL PySem.W
variable [PenC]
section
variable {X : Cx} {E : WXs} {e : Expr} {te : DE} {K : Frag}
def dkyS (st : Sto) (s : Sl) : Option (List PyData) := match dkAny st s with
  | some kvs => some (kvs.map fun p => keyD p.1)
  | none => match dtAt st s with
    | some kvs => some (kvs.map fun p => kyT p.1)
    | none => none
def fListKy : FA := fun ss st Q => match ss with
  | [s] => match dkyS st s with
    | some kd => Q (.d (.list kd)) st
    | none => False
  | _ => False
def fSortKy : FA := fun ss st Q => match ss with
  | [s] => match dkyS st s with
    | some kd => AllAlike kd ∧ (Sortable kd ∨ kd = [.tuple []]) ∧ (∀ d ∈ kd, d.depth ≤ 50) ∧ Q (.d (.list (dsort kd))) st
    | none => False
  | _ => False
def rLenD : List V → Hp → VK → Prop := fun xs H Q => ∃ d, xs = [.ref d] ∧ ((∃ kvs : List (Key × V), Rd H d (.dK kvs) ∧ Q (.int kvs.length) H) ∨ ∃ kvs : List (List Key × V), H d = some (.dT kvs) ∧ Q (.int kvs.length) H)
def fLenD : FA := fun ss st Q => match ss with
  | [s] => match dkAny st s with
    | some kvs => Q (.d (.int kvs.length)) st
    | none => match s with
      | .o h => match st[h]? with
        | some (.dT kvs) => Q (.d (.int kvs.length)) st
        | _ => False
      | _ => False
  | _ => False
end
section
variable {X : Cx} {E : WXs} {e : Expr} {te : DE} {K : Frag}
mutual
theorem Im.bk {W1 W2 : Addr → Prop} {H1 H2 : Hp} {a : Addr} {o : Obj} {u : HO} (hW : ∀ b, W2 b → W1 b ∨ b = a) (hH : ∀ b, b ≠ a → H2 b = H1 b) (ha : H1 a = some (.frz o u)) : ∀ {v : V} {x : PyData}, Im K W1 H1 v x → x.hasDict = false → Im K W2 H2 v x
  | _, _, .non, _ => .non
  | _, _, .bl b, _ => .bl b
  | _, _, .int i, _ => .int i
  | _, _, .str z, _ => .str z
  | _, _, .lst (a := b) q n r, h => by
    have hne : b ≠ a := fun z => by rw [z, ha] at q; cases q
    exact .lst ((hH b hne).trans q) (fun w => (hW b w).elim n hne) (ImAll.bk hW hH ha r (by simpa [PyData.hasDict] using h))
  | _, _, .tup (a := b) q r, h => by
    refine .tup ?_ (ImAll.bk hW hH ha r (by simpa [PyData.hasDict] using h))
    rcases q with ⟨q, n⟩ | q
    · have hne : b ≠ a := fun z => by rw [z, ha] at q; cases q
      exact .inl ⟨(hH b hne).trans q, fun w => (hW b w).elim n hne⟩
    · exact .inr q
  | _, _, .dct _ _ _, h => by simp [PyData.hasDict] at h
  | _, _, .dcl _ _ _, h => by simp [PyData.hasDict] at h
  | _, _, .dcT _ _ _, h => by simp [PyData.hasDict] at h
  | _, _, .dcN _ _ _, h => by simp [PyData.hasDict] at h
  | _, _, .exc _ _ _ _ _ _, h => by simp [PyData.hasDict] at h
theorem ImAll.bk {W1 W2 : Addr → Prop} {H1 H2 : Hp} {a : Addr} {o : Obj} {u : HO} (hW : ∀ b, W2 b → W1 b ∨ b = a) (hH : ∀ b, b ≠ a → H2 b = H1 b) (ha : H1 a = some (.frz o u)) : ∀ {vs : List V} {xs : List PyData}, ImAll K W1 H1 vs xs → PyData.hasDictAll xs = false → ImAll K W2 H2 vs xs
  | _, _, .nil, _ => .nil
  | _, _, .cons q r, h => by
    simp only [PyData.hasDictAll, Bool.or_eq_false_iff] at h
    exact .cons (Im.bk hW hH ha q h.1) (ImAll.bk hW hH ha r h.2)
end
def lkOf : Ct → Option PyData
  | .dK kvs => some (.dict (mkK :: kdD kvs))
  | .dT kvs => some (.dict (mkT :: ktD kvs))
  | _ => none
def wBorD (i : Nat) (te : DE) : DE := fun _ sl st Q => match nthS sl i with
  | some (.o h) => match (st[h]?).bind lkOf with
    | some x => te (fun _ _ _ _ => False) ((sl.map borS).set i (some (.d x))) [] fun s _ => match s with
      | .d x => x.hasDict = false ∧ Q (.d x) st
      | _ => False
    | _ => False
  | _ => False
theorem wBorD_ap {i : Nat} {Ed : DX} {sl : Sls} {st : Sto} {Q : DK} : wBorD i te Ed sl st Q = (match nthS sl i with
  | some (.o h) => match (st[h]?).bind lkOf with
    | some x => te (fun _ _ _ _ => False) ((sl.map borS).set i (some (.d x))) [] fun s _ => match s with
      | .d x => x.hasDict = false ∧ Q (.d x) st
      | _ => False
    | _ => False
  | _ => False) := rfl
end
end Pz
set_option maxRecDepth 100000
namespace Pz
open PySem PySem.Spec PyProof.Rows L2 TL PySem.W
variable [PenC]
section
variable {X : Cx} {E : WXs} {Z0 : Zs} {e : Expr} {es : List Expr} {t : DA} {pos p : Pos} {x : Str} {f : FD} {n k m : Nat} {N : List Str} {τ : DS}
def wDNewT : DE := fun Ed sl st Q => Q (.o st.length) (st ++ [.dT []])
theorem wDNewT_ap {Ed : DX} {sl : Sls} {st : Sto} {Q : DK} : wDNewT Ed sl st Q = Q (.o st.length) (st ++ [.dT []]) := rfl
def unD : PyData → Option Ct
  | .dict l => match unKD l with
    | some kvs => some (.dK kvs)
    | none => match unKT l with
      | some kvs => some (.dT kvs)
      | none => none
  | _ => none
theorem unD_K (kvs : KD) : unD (.dict (kdD kvs)) = some (.dK kvs) := by
  unfold unD
  dsimp only
  rw [unKD_kdD]
theorem unD_T (kvs : KTD) : unD (.dict (mkT :: ktD kvs)) = some (.dT kvs) := by
  unfold unD
  dsimp only
  rw [show unKD (mkT :: ktD kvs) = none from rfl, unKT_ktD]
def spFD (f : FD) : DSp := fun ss cs Q Ed => cs = [] ∧ f ss fun d => match unD d with
  | some c => Q (.o 0) [c]
  | none => False
def aFD (f : FD) (ss : List Sl) (st : Sto) (Q : DK) : Prop := f ss fun d => match unD d with
  | some c => Q (.o st.length) (st ++ [c])
  | none => False
def wCallFD (f : FD) (t : DA) : DE := fun Ed sl st Q => t Ed sl st fun ss st => aFD f ss st Q
theorem wCallFD_ap {f : FD} {t : DA} {Ed : DX} {sl : Sls} {st : Sto} {Q : DK} : wCallFD f t Ed sl st Q = (t Ed sl st fun ss st => aFD f ss st Q) := rfl
variable {fa : Addr} {fd : FuncData} {ps : List Str}
end
section
variable {st : Sto} {s : Sl} {h : Nat} {kvs : KD} {kts : KTD} {ds : List PyData}
theorem kyS_t : kyS st (.d (.tuple ds)) = keysL ds := rfl
theorem keysL_nil : keysL [] = some [] := rfl
theorem keysL_ci {i : Int} {r : List PyData} : keysL (.int i :: r) = (keysL r).map (Sum.inl i :: ·) := by
  rw [keysL]
  cases keysL r <;> rfl
theorem keysL_cs {z : Str} {r : List PyData} : keysL (.str z :: r) = (keysL r).map (Sum.inr z :: ·) := by
  rw [keysL]
  cases keysL r <;> rfl
theorem dtAt_L : dtAt st (.d (.dict (mkT :: ktD kts))) = some kts := unKT_ktD kts
theorem dkAny_o : dkAny st (.o h) = (match st[h]? with
  | some (.dK kvs) => some kvs
  | _ => none) := rfl
theorem dkAny_D : dkAny st (.d (.dict (kdD kvs))) = some kvs := unKD_kdD kvs
theorem dkAny_L : dkAny st (.d (.dict (mkK :: kdD kvs))) = some kvs := unKD_loc kvs
theorem dvAt_o : dvAt st (.o h) = (match st[h]? with
  | some (.dK kvs) => some (kvs.map (·.2))
  | some (.dT kvs) => some (kvs.map (·.2))
  | _ => none) := by
  unfold dvAt
  rw [dkAny_o, dtAt_o]
  cases st[h]? with
  | none => rfl
  | some c => cases c <;> rfl
theorem dvAt_D : dvAt st (.d (.dict (kdD kvs))) = some (kvs.map (·.2)) := by unfold dvAt; rw [dkAny_D]
theorem dvAt_L : dvAt st (.d (.dict (mkK :: kdD kvs))) = some (kvs.map (·.2)) := by unfold dvAt; rw [dkAny_L]
theorem dvAt_T : dvAt st (.d (.dict (mkT :: ktD kts))) = some (kts.map (·.2)) := by unfold dvAt; rw [show dkAny st (.d (.dict (mkT :: ktD kts))) = none from rfl, dtAt_L]
theorem dkyS_o : dkyS st (.o h) = (match st[h]? with
  | some (.dK kvs) => some (kvs.map fun p => keyD p.1)
  | some (.dT kvs) => some (kvs.map fun p => kyT p.1)
  | _ => none) := by
  unfold dkyS
  rw [dkAny_o, dtAt_o]
  cases st[h]? with
  | none => rfl
  | some c => cases c <;> rfl
theorem dkyS_D : dkyS st (.d (.dict (kdD kvs))) = some (kvs.map fun p => keyD p.1) := by unfold dkyS; rw [dkAny_D]
theorem dkyS_L : dkyS st (.d (.dict (mkK :: kdD kvs))) = some (kvs.map fun p => keyD p.1) := by unfold dkyS; rw [dkAny_L]
theorem dkyS_T : dkyS st (.d (.dict (mkT :: ktD kts))) = some (kts.map fun p => kyT p.1) := by unfold dkyS; rw [show dkAny st (.d (.dict (mkT :: ktD kts))) = none from rfl, dtAt_L]
theorem dinS_o : dinS st s (.o h) = (match st[h]? with
  | some (.dK kvs) => (keyS st s).map fun k => (valG kvs k).isSome
  | some (.dT kvs) => (kyS st s).map fun k => (valG kvs k).isSome
  | _ => none) := by
  unfold dinS
  rw [dkAny_o, dtAt_o]
  cases st[h]? with
  | none => rfl
  | some c => cases c <;> rfl
theorem dinS_D : dinS st s (.d (.dict (kdD kvs))) = (keyS st s).map fun k => (valG kvs k).isSome := by unfold dinS; rw [dkAny_D]
theorem dinS_L : dinS st s (.d (.dict (mkK :: kdD kvs))) = (keyS st s).map fun k => (valG kvs k).isSome := by unfold dinS; rw [dkAny_L]
theorem dinS_T : dinS st s (.d (.dict (mkT :: ktD kts))) = (kyS st s).map fun k => (valG kts k).isSome := by unfold dinS; rw [show dkAny st (.d (.dict (mkT :: ktD kts))) = none from rfl, dtAt_L]
theorem fLenD_o {Q : DK} : fLenD [.o h] st Q = (match st[h]? with
  | some (.dK kvs) => Q (.d (.int kvs.length)) st
  | some (.dT kvs) => Q (.d (.int kvs.length)) st
  | _ => False) := by
  unfold fLenD
  dsimp only
  rw [dkAny_o]
  cases st[h]? with
  | none => rfl
  | some c => cases c <;> rfl
theorem ret1_dT {C : KTD} {st : Sto} {Q : DK} : Ret 0 (.o 0) (.dT C :: st) Q = Q (.o 0) [.dT C] := by simp [Ret, Ct.live, Cl]
theorem cl_dt {n : Nat} {kvs : KTD} : Cl n (.dT kvs) = True := rfl
theorem lkOf_K : lkOf (.dK kvs) = some (.dict (mkK :: kdD kvs)) := rfl
theorem lkOf_T : lkOf (.dT kts) = some (.dict (mkT :: ktD kts)) := rfl
theorem xor_f {b : Bool} : (b != false) = b := by cases b <;> rfl
theorem xor_t {b : Bool} : (b != true) = !b := by cases b <;> rfl
theorem hasD_int {i : Int} : (PyData.int i).hasDict = false := rfl
end
end Pz
set_option maxRecDepth 100000
namespace Pz
open PySem PySem.Spec PyProof.Rows L2 TL PySem.W
variable [PenC]
def oLtS (x y : Sl) (st : Sto) (Q : DK) : Prop := match vw st x, vw st y with
  | some (.str a), some (.str b) => Q (.d (.bool (decide (tl a < tl b)))) st
  | _, _ => False
def oLtT (x y : Sl) (st : Sto) (Q : DK) : Prop := match vw st x, vw st y with
  | some (.tuple a), some (.tuple b) => match asInts a, asInts b with
    | some ns, some ms => Q (.d (.bool (HT.lexLt ns ms))) st
    | _, _ => False
  | _, _ => False
end Pz
set_option maxRecDepth 100000
namespace Pz
open PySem PySem.Spec PyProof.Rows L2 TL PySem.W
variable [PenC]
section
variable {X : Cx} {E : WXs}
def wItC (ds : List PyData) : DI := fun Ed sl st Q => Q ds st
theorem wItC_ap {ds : List PyData} {Ed : DX} {sl : Sls} {st : Sto} {Q : List PyData → Sto → Prop} : wItC ds Ed sl st Q = Q ds st := rfl
end
end Pz
set_option maxRecDepth 100000
namespace Pz
open PySem PySem.Spec PyProof.Rows L2 TL
variable [PenC]
section
variable {X : Cx} {E : WXs} {k n m : Nat} {fa : Addr} {fd : FuncData} {ps ks : List Str} {f : FDX} {x : Str} {p pos : Pos} {e : Expr} {es : List Expr} {t tk : DA} {kws : List Keyword} {gS : List Sl → List Sl → List Sl}
def wCallXE (n m : Nat) (f : FDX) (g : List Sl → List Sl → List Sl) (t tk : DA) : DE := fun Ed sl st Q => t Ed sl st fun ss st => tk Ed sl st fun zs st => ss.length = n ∧ zs.length = m ∧ f (g ss zs) (fun d => Q (.d d) st) fun c fs => Ed c fs sl st
theorem wCallXE_ap {g : List Sl → List Sl → List Sl} {Ed : DX} {sl : Sls} {st : Sto} {Q : DK} : wCallXE n m f g t tk Ed sl st Q = (t Ed sl st fun ss st => tk Ed sl st fun zs st => ss.length = n ∧ zs.length = m ∧ f (g ss zs) (fun d => Q (.d d) st) fun c fs => Ed c fs sl st) := rfl
end
end Pz
set_option maxRecDepth 100000
set_option maxHeartbeats 2000000
namespace L2
open PySem PySem.Spec PyProof PyProof.Rows PySem.W
section
variable {X : Cx} {pins : List (Addr × Obj)} {σ : St} {H : Hp} {s : Shared} {a b : Addr} {r : Value} {d : V} {k : List L2.Key} {A : Around} {E : Value → Shared → Prop}
end
def tDSetdT (td ty tx : TE) : TE := fun σ H Q => td σ H fun x H1 => ∃ a, x = .ref a ∧ IsD H1 a ∧ ty σ H1 fun y H2 => tx σ H2 fun z H3 => ∃ (kvs : List (List L2.Key × V)) (k : List L2.Key) (b : Addr), H3 a = some (.dT kvs) ∧ y = .ref b ∧ H3 b = some (.tup (k.map kV)) ∧ kvs.length < sizeLine ∧
  (∀ v, valV kvs k = some v → Q v H3) ∧ (valV kvs k = none → Q z (upd H3 a (.dT (putK kvs k z))))
section
variable {X : Cx} {o e f : Expr} {td ty tx : TE} {apos cpos : Pos}
end
end L2
set_option maxRecDepth 100000
namespace Pz
open PySem PySem.Spec PyProof.Rows L2 TL PySem.W
variable [PenC]
section
variable {X : Cx} {E : WXs} {td ty tx : DE} {o e f : Expr} {apos cpos : Pos}
def wTSetd (td ty tx : DE) : DE := fun Ed sl st Q => td Ed sl st fun s st => (dtAt st s).isSome = true ∧ ty Ed sl st fun t st => tx Ed sl st fun u st => match s, u, kyS st t with
  | .o h, .d y, some k => match st[h]? with
    | some (.dT kvs) => kvs.length < sizeLine ∧ match valG kvs k with
      | some d => Q (.d d) st
      | none => Q (.d y) (st.set h (.dT (putG kvs k y)))
    | _ => False
  | _, _, _ => False
theorem wTSetd_ap {Ed : DX} {sl : Sls} {st : Sto} {Q : DK} : wTSetd td ty tx Ed sl st Q = (td Ed sl st fun s st => (dtAt st s).isSome = true ∧ ty Ed sl st fun t st => tx Ed sl st fun u st => match s, u, kyS st t with
  | .o h, .d y, some k => match st[h]? with
    | some (.dT kvs) => kvs.length < sizeLine ∧ match valG kvs k with
      | some d => Q (.d d) st
      | none => Q (.d y) (st.set h (.dT (putG kvs k y)))
    | _ => False
  | _, _, _ => False) := rfl
end
section
variable {X : Cx} {E : WXs} {p pos : Pos}
def wListRgO (tr : DX → Sls → Sto → (Int → Int → Sto → Prop) → Prop) : DE := fun Ed sl st Q => tr Ed sl st fun i j st => RgOk i j ∧ Q (.o st.length) (st ++ [.lst (rng i (j - i).toNat)])
theorem wListRgO_ap {tr : DX → Sls → Sto → (Int → Int → Sto → Prop) → Prop} {Ed : DX} {sl : Sls} {st : Sto} {Q : DK} : wListRgO tr Ed sl st Q = (tr Ed sl st fun i j st => RgOk i j ∧ Q (.o st.length) (st ++ [.lst (rng i (j - i).toNat)])) := rfl
end
end Pz
set_option maxRecDepth 100000
namespace Pz
open PySem PySem.Spec PyProof.Rows L2 TL PySem.W
variable [PenC]
section
variable {X : Cx} {E : WXs} {Z0 : Zs} {L M F : List Str} {pos pos' np : Pos}
def wTryC (L : List Str) (y : Str) (j : Nat) (u : DS) : DS := fun D sl st => u ⟨D.nx, D.rt, fun c fs sl' st' => c ∈ L ∧ if subB c y = true then D.nx (sl'.set j (some (.d .none))) st' else D.ex c fs sl' st', D.bk, D.ct⟩ sl st
theorem wTryC_ap {y : Str} {j : Nat} {u : DS} {nx bk ct : Sls → Sto → Prop} {rt : DK} {ex : DX} {sl : Sls} {st : Sto} : wTryC L y j u ⟨nx, rt, ex, bk, ct⟩ sl st = u ⟨nx, rt, fun c fs sl' st' => c ∈ L ∧ if subB c y = true then nx (sl'.set j (some (.d .none))) st' else ex c fs sl' st', bk, ct⟩ sl st := rfl
end
end Pz
set_option maxRecDepth 100000
namespace Pz
open PySem PySem.Spec PyProof.Rows L2 TL PySem.W
variable [PenC]
def atS (zs : List Str) (i : Nat) : Str := zs.getD i (Str.ofString "")
def minL (zs : List Str) : Str := atS zs (argBest (fun i j => decide (((atS zs i).length : Int) < ((atS zs j).length : Int))) (zs.length - 1))
section
variable {prog : Program} {w : World} {A : Around} {E : Value → Shared → Prop} {s : Shared} {l : Addr}
end
def rMinLen (K : Frag) : List V → Hp → VK → Prop := fun vs H Q => ∃ (a : Addr) (zs : List Str), vs = [V.ref a] ∧ SqL K H a (zs.map V.str) ∧ (∀ z ∈ zs, z.length ≤ sizeLine) ∧ zs ≠ [] ∧ Q (.str (minL zs)) H
section
variable {X : Cx} {E : WXs} {e : Expr} {te : DE} {x : Str} {p p2 pos kp : Pos} {K : Frag} {t : TA}
def wMinLen (te : DE) : DE := fun Ed sl st Q => te Ed sl st fun s st => match vw st s with
  | some (.list ds) => ∃ zs, asStrs ds = some zs ∧ (∀ z ∈ zs, z.length ≤ 16777216) ∧ zs ≠ [] ∧ Q (.d (.str (minL zs))) st
  | _ => False
theorem wMinLen_ap {Ed : DX} {sl : Sls} {st : Sto} {Q : DK} : wMinLen te Ed sl st Q = (te Ed sl st fun s st => match vw st s with
  | some (.list ds) => ∃ zs, asStrs ds = some zs ∧ (∀ z ∈ zs, z.length ≤ 16777216) ∧ zs ≠ [] ∧ Q (.d (.str (minL zs))) st
  | _ => False) := rfl
end
end Pz
set_option maxRecDepth 100000
set_option maxHeartbeats 1000000
namespace Zt
open PySem PySem.Spec PyProof.Rows L2 Zm
section
variable {prog : Program} {w : World} {A : Around} {E : Value → Shared → Prop} {s : Shared}
abbrev mT1 (h : Heap) (l1 : Addr) : Heap := h.push { cls := .type "tuple_iterator", data := .fields #[.ref l1, .int 0 0] }
variable {z TI TO i1 i2 l1 l2 : Addr} {k : Nat} {xs ys : Array Value} {x y a b : Value} {S1 S2 : Nat → Heap → Prop}
abbrev mT2 (h : Heap) (l1 l2 : Addr) : Heap := (mT1 h l1).push { cls := .type "list_iterator", data := .fields #[.ref l2, .int 0 0] }
abbrev mT3 (h : Heap) (l1 l2 : Addr) : Heap := (mT2 h l1 l2).push { cls := .type "tuple", data := .seq #[.ref h.objs.size, .ref (mT1 h l1).objs.size] }
abbrev mT4 (h : Heap) (l1 l2 : Addr) : Heap := (mT3 h l1 l2).push { cls := .type "tuple", data := .seq #[.none, .none] }
abbrev mT5 (h : Heap) (l1 l2 : Addr) : Heap := (mT4 h l1 l2).push { cls := .type "zip", data := .fields #[.none, .bool false, .bool false, .ref (mT2 h l1 l2).objs.size, .ref (mT3 h l1 l2).objs.size] }
theorem meets_new (l1 l2 : Addr) (xs ys : Array Value) :
    Meets (Builtin.«zip.__new__» ⟨[.type "zip", .ref l1, .ref l2], []⟩) (fun _ R s => s.heap.IsTuple l1 xs ∧ s.heap.IsList l2 ys ∧
      R (.ok (.ret (.ref (mT4 s.heap l1 l2).objs.size))) { s with heap := mT5 s.heap l1 l2 }) :=
  .of_wp fun prog w A R s h => by
    obtain ⟨hp, g, d, tk, os⟩ := s; obtain ⟨hl1, hl2, h⟩ := h
    have hsub := sub_zip
    have hL1 : Heap.IsTuple (Shared.heap ⟨hp, g, d, tk, os⟩) l1 xs := hl1
    have hL2 : Heap.IsList (Shared.heap ⟨hp.push { cls := .type "tuple_iterator", data := .fields #[.ref l1, .int 0 0] }, g, d, tk, os⟩) l2 ys := Heap.IsList.push hl2 _
    wp_walk using wpAny_pyIter_tuple hL1, wpAny_pyIter_list hL2
    exact ⟨_, rfl, h⟩
theorem call_new {Q : Value → Shared → Prop} (hl1 : s.heap.IsTuple l1 xs) (hl2 : s.heap.IsList l2 ys)
    (h : ∀ h', IsZip h' (s.heap.objs.size + 4) (s.heap.objs.size + 2) (s.heap.objs.size + 3) .none → IsPair h' (s.heap.objs.size + 2) (.ref s.heap.objs.size) (.ref (s.heap.objs.size + 1)) →
      IsPair h' (s.heap.objs.size + 3) .none .none → h'.IsTupleIter s.heap.objs.size l1 0 → h'.IsListIter (s.heap.objs.size + 1) l2 0 →
      (∀ c o, s.heap.get? c = some o → h'.get? c = some o) → Q (.ref (s.heap.objs.size + 4)) { s with heap := h' }) :
    wpAny (model prog w) A (call (.type "zip") [.ref l1, .ref l2]) Q E s := by
  refine callType_new F.called_zip (by decide) (F.typeCall_zip_2 _ _) (F.newCall_zip_2 _ _) (fun obj => F.args_object_init_3 obj _ _) F.entry_zip_new (meets_new l1 l2 xs ys) ⟨hl1, hl2, ?_⟩
  have n1 : (mT1 s.heap l1).objs.size = s.heap.objs.size + 1 := Heap.size_push ..
  have n2 : (mT2 s.heap l1 l2).objs.size = s.heap.objs.size + 2 := by rw [Heap.size_push, n1]
  have n3 : (mT3 s.heap l1 l2).objs.size = s.heap.objs.size + 3 := by rw [Heap.size_push, n2]
  have n4 : (mT4 s.heap l1 l2).objs.size = s.heap.objs.size + 4 := by rw [Heap.size_push, n3]
  have on : ∀ {h : Heap} {ob o : Obj} {c : Addr}, h.get? c = some o → (h.push ob).get? c = some o := fun q => Heap.get?_push_of_some _ q
  have g5 : (mT5 s.heap l1 l2).get? (mT4 s.heap l1 l2).objs.size = some _ := Heap.get?_push_size _ rfl
  have g4 : (mT5 s.heap l1 l2).get? (mT3 s.heap l1 l2).objs.size = some _ := on (Heap.get?_push_size _ rfl)
  have g3 : (mT5 s.heap l1 l2).get? (mT2 s.heap l1 l2).objs.size = some _ := on (on (Heap.get?_push_size _ rfl))
  have g2 : (mT5 s.heap l1 l2).get? (mT1 s.heap l1).objs.size = some _ := on (on (on (Heap.get?_push_size _ rfl)))
  have g1 : (mT5 s.heap l1 l2).get? s.heap.objs.size = some _ := on (on (on (on (Heap.get?_push_size _ rfl))))
  show _ ∧ _
  rw [n2, n3, n4] at g5
  rw [n1, n2] at g3
  rw [n3] at g4
  rw [n1] at g2
  rw [n4]
  exact ⟨⟨_, g5, rfl⟩, h _ g5 g3 g4 ⟨_, g1, rfl, rfl⟩ ⟨_, g2, rfl, rfl⟩ fun c o q => on (on (on (on (on q))))⟩
end
def ItN (K : PySem.W.Frag) (a b : Addr) : It :=
  ⟨fun i H => ∃ (xs ys : List V) (x y : V), SqT K H a xs ∧ SqL K H b ys ∧ xs[i]? = some x ∧ ys[i]? = some y,
    fun i H v H' => ∃ T x y, v = .ref T ∧ H T = none ∧ H' = upd H T (.tup [x, y]) ∧ (∀ xs, SqT K H a xs → xs[i]? = some x) ∧ ∀ ys, SqL K H b ys → ys[i]? = some y,
    fun i H => ∃ xs ys : List V, SqT K H a xs ∧ SqL K H b ys ∧ (xs.length ≤ i ∨ ys.length ≤ i)⟩
def iZipN (K : PySem.W.Frag) (ta : TA) : TI := fun σ H R => ta σ H fun vs H1 => ∃ a b xs ys, vs = [.ref a, .ref b] ∧ SqT K H1 a xs ∧ SqL K H1 b ys ∧ R (ItN K a b) H1
end Zt
namespace Pz
open PySem PySem.Spec PyProof.Rows L2 TL
variable [PenC]
variable {X : Cx} {E : WXs} {Z0 : Zs} {K : Frag} {t : DA} {e e2 : Expr} {p pos tpos : Pos} {elts : List Expr} {kk : Nat}
def wZipN (te : DA) : DI := fun Ed sl st Q => te Ed sl st fun ss st => match ss with
  | [.d (.tuple ds), .d (.list es)] => Q (zipD ds es) st
  | _ => False
theorem wZipN_ap {te : DA} {Ed : DX} {sl : Sls} {st : Sto} {Q : List PyData → Sto → Prop} : wZipN te Ed sl st Q = (te Ed sl st fun ss st => match ss with
  | [.d (.tuple ds), .d (.list es)] => Q (zipD ds es) st
  | _ => False) := rfl
end Pz
set_option maxRecDepth 100000
set_option maxHeartbeats 2000000
namespace L2
open PySem PySem.Spec PyProof PyProof.Rows PySem.W
section
variable {X : Cx} {pins : List (Addr × Obj)} {σ : St} {H : Hp} {s : Shared} {a b : Addr} {r : Value} {d : V} {k : List L2.Key} {A : Around} {E : Value → Shared → Prop}
end
section
variable {X : Cx}
def tDcT (wi : TI) (g : TG) (tt : TT) (tk tv : TE) (vs : List Nat) : TE := fun σ H Q => wi σ H fun J H1 => ∀ D, H1 D = none → ∃ G : Nat → Nat → Hp → Prop, (∃ m, G 0 m (upd H1 D (.dT []))) ∧ ∀ i m H, G i m H →
  (J.stop i H ∧ Q (.ref D) H) ∨ (J.go i H ∧ ∃ Nx : Hp → Prop, (∀ H', Nx H' → ∃ m', m' < m ∧ G (i + 1) m' H') ∧ ∀ x H', J.yld i H x H' → g x (wipe σ vs) H' fun σ2 H2 => wipe σ2 vs = wipe σ vs ∧ tt σ2 H2 fun b H3 =>
    if b = true then tk σ2 H3 fun y H4 => tv σ2 H4 fun z H5 => ∃ kvs k c, y = .ref c ∧ H5 c = some (.tup (k.map kV)) ∧ H5 D = some (.dT kvs) ∧ kvs.length < sizeLine ∧ Nx (upd H5 D (.dT (putK kvs k z))) else Nx H3)
end
section
variable {X : Cx} {kx vx tg iter : Expr} {ifs : List Expr} {scope : Scope} {own : List (Str × Nat)} {pos pos' : Pos} {wi : TI} {g : TG} {tt : TT} {tk tv : TE}
structure DcP (X : Cx) (scope : Scope) (tg kx vx : Expr) (ifs : List Expr) (g : TG) (tt : TT) (tk tv : TE) : Prop where
  g : ∀ (s : Shared) (H : Hp) (C : Addr) (cl : List (Str × Addr)) (fp : List Addr), PG (X.blk s H scope (compEnvC scope cl C X.env) fp) tg g
  t : ∀ (s : Shared) (H : Hp) (C : Addr) (cl : List (Str × Addr)) (fp : List Addr), PTs (X.blk s H scope (compEnvC scope cl C X.env) fp) ifs tt
  k : ∀ (s : Shared) (H : Hp) (C : Addr) (cl : List (Str × Addr)) (fp : List Addr), PE (X.blk s H scope (compEnvC scope cl C X.env) fp) kx tk
  v : ∀ (s : Shared) (H : Hp) (C : Addr) (cl : List (Str × Addr)) (fp : List Addr), PE (X.blk s H scope (compEnvC scope cl C X.env) fp) vx tv
end
end L2
set_option maxRecDepth 100000
namespace Pz
open PySem PySem.Spec PyProof.Rows L2 TL PySem.W
variable [PenC]
section
variable {X : Cx} {E : WXs} {Z0 : Zs} {a b c e : Expr} {es : List Expr} {ta tb tc te : DE} {t : DA} {pos p : Pos} {x : Str} {K : Frag} {A : DT}
def wDcTL (g : DG) (tt : DT) (tk te : DE) (sl : Sls) (h : Nat) : List PyData → Sto → (Sto → Prop) → Prop
  | [] => fun st Q => match st[h]? with
    | some (.dT _) => Q st
    | _ => False
  | d :: ds => fun st Q => g (.d d) sl st fun sl2 st => tt (fun _ _ _ _ => False) sl2 st fun b st => if b = true then tk (fun _ _ _ _ => False) sl2 st fun ks st => te (fun _ _ _ _ => False) sl2 st fun s st => match kyS st ks, s, st[h]? with
      | some k, .d y, some (.dT acc) => acc.length < sizeLine ∧ wDcTL g tt tk te sl h ds (st.set h (.dT (putG acc k y))) Q
      | _, _, _ => False
    else wDcTL g tt tk te sl h ds st Q
def wDcT (ω : DI) (g : DG) (tt : DT) (tk te : DE) (vs : List Nat) : DE := fun Ed sl st Q => ω Ed sl st fun ds st => wDcTL g tt tk te (wipeS sl vs) st.length ds (st ++ [.dT []]) fun st' => Q (.o st.length) st'
theorem wDcT_ap {ω : DI} {g : DG} {tt : DT} {tk te : DE} {vs : List Nat} {Ed : DX} {sl : Sls} {st : Sto} {Q : DK} : wDcT ω g tt tk te vs Ed sl st Q = ω Ed sl st fun ds st => wDcTL g tt tk te (wipeS sl vs) st.length ds (st ++ [.dT []]) fun st' => Q (.o st.length) st' := rfl
variable {elt kx tg iter : Expr} {ifs : List Expr} {scope : Scope} {own : List (Str × Nat)} {ω : DI} {is : List Nat} {g : DG} {tt : DT}
end
end Pz
set_option maxRecDepth 100000
set_option maxHeartbeats 2000000
namespace PySem
open Sem (wp)
open PySem PySem.Spec PyProof.Rows
section
variable {prog : Program} {w : World} {A : Around} {R : Result → Shared → Prop} {I : Addr} {fp wr : List Addr} {G : Array GenState → Array GenState → Prop} {n : Nat} {P : Nat → Value → Prop} {St : Nat → Shared → Prop}
def preCat (z : List Value) (seg : Nat → List Value) : Nat → List Value
  | 0 => z
  | i + 1 => preCat z seg i ++ seg i
end
section
variable {prog : Program} {w : World} {A : Around} {E : Value → Shared → Prop} {s : Shared}
end
end PySem
namespace L2
open PySem PySem.Spec PyProof.Rows
section
variable {X : Cx}
inductive LstsAt (H : Hp) : List V → List (List V) → Prop
  | nil : LstsAt H [] []
  | cons {c : Addr} {ys : List V} {xs : List V} {yss : List (List V)} (e : H c = some (.lst ys)) (r : LstsAt H xs yss) : LstsAt H (.ref c :: xs) (ys :: yss)
def rSumL (K : PySem.W.Frag) : List V → Hp → VK → Prop := fun vs H Q => ∃ (a b : Addr) (xs zs : List V) (yss : List (List V)), vs = [.ref a, .ref b] ∧ SqL K H a xs ∧ H b = some (.lst zs) ∧ LstsAt H xs yss ∧
  (zs ++ yss.flatten).length ≤ sizeLine ∧ (yss = [] → Q (.ref b) H) ∧ (yss ≠ [] → ∀ p, H p = none → Q (.ref p) (upd H p (.lst (zs ++ yss.flatten))))
end
end L2
set_option maxRecDepth 100000
namespace Pz
open PySem PySem.Spec PyProof.Rows L2 TL PySem.W
variable [PenC]
section
variable {X : Cx} {E : WXs} {Z0 : Zs} {K : Frag} {rest : List Stmt} {u : DS} {td ty tx : DE} {o e f : Expr} {apos cpos pos : Pos}
def wDNewN : DE := fun Ed sl st Q => Q (.o st.length) (st ++ [.dN []])
theorem wDNewN_ap {Ed : DX} {sl : Sls} {st : Sto} {Q : DK} : wDNewN Ed sl st Q = Q (.o st.length) (st ++ [.dN []]) := rfl
def oK : PyData → Option (Option Int)
  | .none => some none
  | .int i => some (some i)
  | _ => none
theorem oK_n : oK .none = some none := rfl
theorem oK_i {i : Int} : oK (.int i) = some (some i) := rfl
abbrev KNS := List (Option Int × Sl)
def getN (kvs : KNS) (k : Option Int) : Option Sl := valV' kvs k
where valV' : KNS → Option Int → Option Sl
  | [], _ => none
  | (k', s) :: r, k => if k' = k then some s else valV' r k
def dnAt (st : Sto) : Sl → Option KNS
  | .o h => match st[h]? with
    | some (.dN kvs) => some kvs
    | _ => none
  | _ => none
theorem dnAt_o {st : Sto} {h : Nat} : dnAt st (.o h) = match st[h]? with
    | some (.dN kvs) => some kvs
    | _ => none := rfl
theorem RpAll.app {Z : Zs} : ∀ {vs us : List V} {ss ts : List Sl}, RpAll K Z vs ss → RpAll K Z us ts → RpAll K Z (vs ++ us) (ss ++ ts)
  | _, _, _, _, .nil, r => r
  | _, _, _, _, .cons q t, r => .cons q (RpAll.app t r)
def wNSetd (td ty tx : DE) : DE := fun Ed sl st Q => td Ed sl st fun s st => (dnAt st s).isSome = true ∧ ty Ed sl st fun t st => tx Ed sl st fun u st => match s, t with
  | .o h, .d y => match dnAt st (.o h), oK y with
    | some kvs, some k => kvs.length < sizeLine ∧ match getN kvs k with
      | some s' => Q s' st
      | none => Q u (st.set h (.dN (kvs ++ [(k, u)])))
    | _, _ => False
  | _, _ => False
theorem wNSetd_ap {Ed : DX} {sl : Sls} {st : Sto} {Q : DK} : wNSetd td ty tx Ed sl st Q = (td Ed sl st fun s st => (dnAt st s).isSome = true ∧ ty Ed sl st fun t st => tx Ed sl st fun u st => match s, t with
  | .o h, .d y => match dnAt st (.o h), oK y with
    | some kvs, some k => kvs.length < sizeLine ∧ match getN kvs k with
      | some s' => Q s' st
      | none => Q u (st.set h (.dN (kvs ++ [(k, u)])))
    | _, _ => False
  | _, _ => False) := rfl
abbrev GN := List (Option Int × List PyData)
inductive GnOk (st : Sto) (n0 h : Nat) : KNS → GN → Prop
  | nil : GnOk st n0 h [] []
  | cons {k : Option Int} {j : Nat} {ds : List PyData} {kvs : KNS} {G : GN} (hj : n0 ≤ j) (e : st[j]? = some (.lst ds)) (r : GnOk st n0 h kvs G) : GnOk st n0 h ((k, .o j) :: kvs) ((k, ds) :: G)
def gnD (G : GN) : PyData := .dict (mkN :: G.map fun p => (oD p.1, .list p.2))
def keepO (n0 h : Nat) (sl : Sls) : Prop := ∀ s ∈ sl, ∀ k, s = some (.o k) → k = h ∨ k < n0
def deadS (n0 : Nat) (st : Sto) : Sto := st.take n0 ++ List.replicate (st.length - n0) .dead
def wFrzN (n0 i : Nat) (u : DS) : DS := fun D sl st => match nthS sl i with
  | some (.o h) => match st[h]? with
    | some (.dN kvs) => ∃ G, GnOk st n0 h kvs G ∧ n0 ≤ h ∧ keepO n0 h sl ∧ (∀ c ∈ st.take n0, ∀ k, n0 ≤ k → NoRef k c) ∧ u D (sl.map (frzX h (gnD G))) (deadS n0 st)
    | _ => False
  | _ => u D sl st
theorem wFrzN_ap {n0 i : Nat} {u : DS} {nx bk ct : Sls → Sto → Prop} {rt : DK} {ex : DX} {sl : Sls} {st : Sto} : wFrzN n0 i u ⟨nx, rt, ex, bk, ct⟩ sl st = (match nthS sl i with
  | some (.o h) => match st[h]? with
    | some (.dN kvs) => ∃ G, GnOk st n0 h kvs G ∧ n0 ≤ h ∧ keepO n0 h sl ∧ (∀ c ∈ st.take n0, ∀ k, n0 ≤ k → NoRef k c) ∧ u ⟨nx, rt, ex, bk, ct⟩ (sl.map (frzX h (gnD G))) (deadS n0 st)
    | _ => False
  | _ => u ⟨nx, rt, ex, bk, ct⟩ sl st) := rfl
def fSumL : FA := fun ss st Q => match ss with
  | [.d (.list xs), .d (.list zs)] => ∃ yss : List (List PyData), xs = yss.map PyData.list ∧ (zs ++ yss.flatten).length ≤ sizeLine ∧ Q (.d (.list (zs ++ yss.flatten))) st
  | _ => False
def fSortedGO : FA := fun ss st Q => match ss with
  | [s] => match vw st s with
    | some (.list ds) => AllAlike ds ∧ Sortable ds ∧ (∀ d ∈ ds, d.depth ≤ 50) ∧ Q (.o st.length) (st ++ [.lst (dsort ds)])
    | _ => False
  | _ => False
end
end Pz
set_option maxRecDepth 100000
namespace L2
open PySem PySem.Spec PyProof.Rows
def DKp (i : Nat) (a : Addr) (cls : Value) (d : Option Addr) (D : Ends) : Ends :=
  { nx := fun σ H => H a = none → D.nx (σ.set i none) (upd H a (ExO cls d a)), rt := D.rt, bk := fun σ H => H a = none → D.bk (σ.set i none) (upd H a (ExO cls d a)), ct := fun σ H => H a = none → D.ct (σ.set i none) (upd H a (ExO cls d a)) }
def wKeeps (K : PySem.W.Frag) (Wout : WX) (D : Ends) : List (Value × Nat × (Addr → Value → Option Addr → TS)) → WX
  | [] => Wout
  | (c, i, ts) :: r => fun cls d σ H => ∃ b, PySem.W.exmOne K cls c = some b ∧ (b = true → i < σ.length → ∀ a, H a = none → ts a cls d (DKp i a cls d D) (σ.set i (some (.ref a))) H) ∧ (b = false → wKeeps K Wout D r cls d σ H)
inductive HdsK (X : Cx) : List ExceptHandler → List (Value × Nat × (Addr → Value → Option Addr → TS)) → Prop
  | nil : HdsK X [] []
  | cons {x n : Str} {c : Value} {i : Nat} {ts : Addr → Value → Option Addr → TS} {b₀ : Stmt} {suite : List Stmt} {np pos' : Pos} {hds : List ExceptHandler} {l : List (Value × Nat × (Addr → Value → Option Addr → TS))} (hc : Names X x c)
      (hi : X.N[i]? = some n) (hln : X.env.kindOf n = some .local)
      (hsu : ∀ (a : Addr) (oe : Obj) (cls : Value) (d : Option Addr) (pn : List (Addr × Obj)), Zc cls d oe → (∃ vs, oe.data = .fields vs) → PSs (X.suite a ((a, oe) :: pn)) (b₀ :: suite) (ts a cls d)) (r : HdsK X hds l) :
      HdsK X (.ExceptHandler (some (.Name x np)) (some n) (b₀ :: suite) pos' :: hds) ((c, i, ts) :: l)
section
variable {X : Cx} {body : List Stmt} {h₀ : ExceptHandler} {hds : List ExceptHandler} {l : List (Value × Nat × (Addr → Value → Option Addr → TS))} {pos : Pos} {tb : WX → TS} {Wout : WX}
theorem ps_try_keeps (hs : X.stack = X.env :: X.outer) (hf : X.env.frame = some X.env.locals) (hex : X.ex = []) (hN : X.N.Nodup) (tk : Takes X Wout)
    (hb : ∀ (W : WX) (pn : List (Addr × Obj)) (xe : Value → Shared → Prop), Takes (X.tr pn xe) W → PassesOwn (model X.prog X.w) X.A X.env xe → PSs (X.tr pn xe) body (tb W))
    (hh : HdsK X (h₀ :: hds) l) : PS X (.Try body (h₀ :: hds) [] [] pos) (fun D σ H => tb (wKeeps X.K Wout D l) D σ H) := by
  refine ⟨fun pins s σ H D I h => ?_⟩
  have ok := I.ok
  have hfr : X.A.frames = some (X.env :: X.outer) := by rw [ok.frames, hs]
  refine wpAny_Try_except ?_
  refine wpAny_mono ((hb (wKeeps X.K Wout D l) (X.pn ++ pins) (fun e s₁ => wpAny (model X.prog X.w) X.A (noteFrame e X.env) (fun _ s₂ => wpAny (model X.prog X.w) X.A (setFlight e none) (fun _ s₃ =>
    wpAny (model X.prog X.w) X.A (handleBy e X.env (h₀ :: hds)) (SP X pins D) X.xe s₃) X.xe s₂) X.xe s₁) (fun u s' xx => ?_) PassesOwn.looking).run [] s σ H D (I.toTry _) h) (fun f s1 hsp => ?_) (fun e s1 he => he)
  · obtain ⟨a, B, sI, pins', σ', H', cls, d, rfl, J', nb, up, sky, na, os, ag, w⟩ := xx
    have J : Inv X pins σ' H' sI := J'.ofTry ok
    have sky' : Sky B (X.env :: X.outer) a (Zc cls d) X.env.locals s'.heap := by rw [← hs]; exact sky
    show wpAny (model X.prog X.w) X.A (noteFrame (.ref a) X.env) _ _ _
    refine Sky.land Zc.steady hfr hf sky' fun h3 fl3 up3 => ?_
    have J3 : Inv X pins σ' H' { s' with heap := h3 } := J.landed nb fl3.1 (up.trans up3) os ag
    obtain ⟨oe3, vs3, he3, hz3, hd3⟩ := fl3.there
    have notFr : ∀ {h : Heap} {o : Obj} {vs : Array Value}, h.FunFrames B (X.env :: X.outer) → h.get? a = some o → o.data = .fields vs → a ∉ frs (X.env :: X.outer) := fun {h o vs} ff e dd hm => by
      obtain ⟨_, o', e', hnf⟩ := ff.mem hm
      rw [e] at e'; cases e'
      exact hnf _ dd
    have nfr := notFr fl3.2.2.1 he3 hd3
    have nL : a ≠ X.env.locals := fun z => nfr (List.mem_filterMap.mpr ⟨X.env, List.mem_cons_self, by rw [hf, z]⟩)
    have nF : a ∉ X.fs := fun hm => by
      obtain ⟨e, he, q⟩ := List.mem_filterMap.mp hm
      exact nfr (List.mem_filterMap.mpr ⟨e, List.mem_cons_of_mem _ he, q⟩)
    have nB : B.get? a = none := fl3.2.1
    have n0 : X.s_0.heap.get? a = none := by
      cases e : X.s_0.heap.get? a with
      | none => rfl
      | some o =>
        obtain ⟨o', e1⟩ := J.base.there a o e (by rw [hex]; exact fun z => by cases z)
        have := nb a o' e1 (by rw [hs]; exact nfr)
        rw [nB] at this; cases this
    have np : ∀ p ∈ X.pn ++ pins, p.1 ≠ a := fun p hp z => by
      obtain ⟨e, _, ne, nf, _⟩ := J.pin p hp
      have := nb p.1 p.2 e (fun hm => (List.mem_cons.mp (J.stkSub p.1 hm)).elim ne nf)
      rw [z, nB] at this; cases this
    have S3 := J3.suite he3 hd3 na nL nF
    have go : ∀ {hds' : List ExceptHandler} {l' : List (Value × Nat × (Addr → Value → Option Addr → TS))}, HdsK X hds' l' → wKeeps X.K Wout D l' cls d σ' H' →
        wpAny (model X.prog X.w) X.A (handleBy (.ref a) X.env hds') (SP X pins D) X.xe { s' with heap := h3 } := by
      intro hds' l' hk
      induction hk with
      | nil =>
        intro w
        refine wpAny_handleBy_nil ?_
        obtain ⟨k1, k2, k3, oe, vs, T, oT, ts', he, hz, hd, h1, hr⟩ := id fl3
        unfold PySem.passOn
        refine wpAny_bind (wpAny_field he hd h1 ?_)
        rw [if_neg (show ¬ ((Value.ref T == Value.none) = true) from by simp)]
        have fin : wpAny (model X.prog X.w) X.A (setFlight (.ref a) X.env.frame) (fun _ s4 => wpAny (model X.prog X.w) X.A (throw (.ref a) : Sem Flow) (SP X pins D) X.xe s4) X.xe { s' with heap := h3 } := by
          rw [hf]
          refine HandSPX.setFlight_upZ fl3 fun h4 hh4 up4 => wpAny_throw (tk _ _ ?_)
          exact ⟨a, B, sI, pins, σ', H', cls, d, rfl, J, nb, (up.trans up3).trans up4, .inr (.inr (by rw [hs]; exact hh4)), na, os, ag, w⟩
        first
          | exact wpAny_bind (wpAny_pure (wpAny_bind fin))
          | exact wpAny_bind fin
      | @cons x n c i ts b₀ suite np1 pos' hds2 l2 hc hi hln hsu r ih =>
        intro w
        obtain ⟨b, hb1, hyes, hno⟩ := w
        have hloc : Loc X.env.scope n := .inl hln
        refine wpAny_handleBy_cons (codeAny_handlers_test ?_) (by intro q; cases q)
        have LT : PySem.W.Looks (model X.prog X.w) h3 (typeOf (.ref a)) cls := fun A Q E s k q => wpAny_typeOf_ref (k _ _ he3) (by rw [hz3.1]; exact q)
        have LM := PySem.W.exm_one (M := model X.prog X.w) (J3.kIn) LT hb1
        have test : ∀ {Q : Value → Shared → Prop} {E : Value → Shared → Prop}, Q c { s' with heap := h3 } → wpAny (model X.prog X.w) (X.A.mark (some (.ref a))) (eval (.Name x np1) X.env) Q E { s' with heap := h3 } := fun {Q E} q => by
          obtain ⟨hg, hdbg, hm | ⟨hm, hv, hnn⟩⟩ := hc
          · exact ld_glob (X := X.suite a ((a, oe3) :: (X.pn ++ pins))) S3 hg hm q hdbg
          · exact ld_blt (X := X.suite a ((a, oe3) :: (X.pn ++ pins))) S3 hg hm hv q hnn hdbg
        refine test (LM.here ?_)
        cases b with
        | true =>
          refine codeAny_handlers_suite_as ?_
          refine HandSPX.lands_againZ fl3 fun h4 fl4 up4 => ?_
          have J4 : Inv X pins σ' H' { s' with heap := h4 } := J.landed nb fl4.1 ((up.trans up3).trans up4) os ag
          obtain ⟨oe4, vs4, he4, hz4, hd4⟩ := fl4.there
          have S4 := J4.suite he4 hd4 na nL nF
          refine store_ok (X := X.suite a ((a, oe4) :: (X.pn ++ pins))) (v := .ref a) S4 hN hi hloc rfl (fun s5 S5 => ?_) (.inr hln)
          refine wpAny_mono ((hsu a oe4 cls d (X.pn ++ pins) hz4 ⟨_, hd4⟩).run [] s5 _ H' _ S5 (hyes rfl (by rw [J.len]; exact (List.getElem?_eq_some_iff.mp hi).1) a na)) (fun f s6 hsp => ?_) (fun _ _ z => False.elim z)
          have endA : ∀ {σ6 : St} {H6 : Hp} {Q : Shared → Prop}, Inv (X.suite a ((a, oe4) :: (X.pn ++ pins))) [] σ6 H6 s6 → (H6 a = none → ∀ s7, Inv X pins (σ6.set i none) (upd H6 a (ExO cls d a)) s7 → Q s7) →
              wpAny (model X.prog X.w) X.A (do bindName X.env n .none; unbindBehindTheSuite X.env n pos') (fun _ s7 => Q s7) X.xe s6 := fun {σ6 H6 Q} S6 hq => by
            obtain ⟨he6, na6, _⟩ := S6.pin (a, oe4) (List.mem_append_left _ List.mem_cons_self)
            exact gone_ok ((S6.unsuite ok).adopt he6 hz4 ⟨_, hd4⟩ na6 n0 nL np) hN hi hln fun s7 J7 => hq na6 s7 J7
          have end_ : ∀ {σ6 : St} {H6 : Hp} {Q : Shared → Prop}, Inv (X.suite a ((a, oe4) :: (X.pn ++ pins))) [] σ6 H6 s6 → (∀ s7, Inv X pins (σ6.set i none) H6 s7 → Q s7) →
              wpAny (model X.prog X.w) X.A (do bindName X.env n .none; unbindBehindTheSuite X.env n pos') (fun _ s7 => Q s7) X.xe s6 := fun {σ6 H6 Q} S6 hq => gone_ok (S6.unsuite ok) hN hi hln hq
          cases f with
          | next =>
            obtain ⟨σ6, H6, S6, q6⟩ := hsp
            exact endA S6 fun n6 s7 J7 => ⟨_, _, J7, q6 n6⟩
          | brk =>
            obtain ⟨σ6, H6, S6, q6⟩ := hsp
            exact endA S6 fun n6 s7 J7 => ⟨_, _, J7, q6 n6⟩
          | cont =>
            obtain ⟨σ6, H6, S6, q6⟩ := hsp
            exact endA S6 fun n6 s7 J7 => ⟨_, _, J7, q6 n6⟩
          | ret u =>
            obtain ⟨v6, σ6, H6, S6, r6, q6⟩ := hsp
            exact end_ S6 fun s7 J7 => ⟨_, _, _, J7, r6, q6⟩
        | false =>
          show wpAny _ X.A (handleBy (.ref a) X.env hds2) _ _ _
          exact ih (hno rfl)
    exact go hh w
  · cases f with
    | next =>
      obtain ⟨σ', H', J', q⟩ := hsp
      exact wpAny_execs_nil ⟨σ', H', J'.ofTry ok, q⟩
    | brk =>
      obtain ⟨σ', H', J', q⟩ := hsp
      exact ⟨σ', H', J'.ofTry ok, q⟩
    | cont =>
      obtain ⟨σ', H', J', q⟩ := hsp
      exact ⟨σ', H', J'.ofTry ok, q⟩
    | ret u =>
      obtain ⟨v, σ', H', J', r, q⟩ := hsp
      exact ⟨v, σ', H', J'.ofTry ok, r, q⟩
end
end L2
set_option maxRecDepth 100000
namespace Pz
open PySem PySem.Spec PyProof.Rows L2 TL PySem.W
variable [PenC]
section
variable {X : Cx} {E : WXs} {Z0 : Zs} {L M F : List Str} {pos pos1 pos2 p1 p2 p3 p4 np1 np2 : Pos}
def wTry2 (L : List Str) (y1 f1 : Str) (i1 j : Nat) (y2 f2 : Str) (u : DS) : DS := fun D sl st => u ⟨D.nx, D.rt, fun c fs sl' st' => c ∈ L ∧ if subB c y1 = true then c = y1 ∧ ∃ d, fs.lookup f1 = some d ∧ D.nx (((sl'.set i1 none).set j (some (.d (.list [d, excD c fs])))).set i1 none) st'
  else if subB c y2 = true then c = y2 ∧ ∃ d, fs.lookup f2 = some d ∧ D.rt (.d d) st' else D.ex c fs sl' st', D.bk, D.ct⟩ sl st
theorem wTry2_ap {y1 f1 : Str} {i1 j : Nat} {y2 f2 : Str} {u : DS} {nx bk ct : Sls → Sto → Prop} {rt : DK} {ex : DX} {sl : Sls} {st : Sto} : wTry2 L y1 f1 i1 j y2 f2 u ⟨nx, rt, ex, bk, ct⟩ sl st = u ⟨nx, rt, fun c fs sl' st' => c ∈ L ∧ if subB c y1 = true then c = y1 ∧ ∃ d, fs.lookup f1 = some d ∧ nx (((sl'.set i1 none).set j (some (.d (.list [d, excD c fs])))).set i1 none) st'
  else if subB c y2 = true then c = y2 ∧ ∃ d, fs.lookup f2 = some d ∧ rt (.d d) st' else ex c fs sl' st', bk, ct⟩ sl st := rfl
theorem SlOk.setAny {K : Frag} {Z : Zs} {σ : L2.St} {sl : Sls} (h : SlOk K Z σ sl) (i : Nat) (o : Option V) : SlOk K Z (σ.set i o) (sl.set i none) := by
  refine ⟨by simpa using h.len, fun j t e => ?_⟩
  by_cases hj : i = j
  · subst hj
    rcases Nat.lt_or_ge i sl.length with q | q
    · rw [List.getElem?_set_self q] at e; cases e
    · rw [List.getElem?_eq_none (by simpa using q)] at e; cases e
  · rw [List.getElem?_set_ne hj] at e
    obtain ⟨u, q, r'⟩ := h.has j t e
    exact ⟨u, by rw [List.getElem?_set_ne hj]; exact q, r'⟩
theorem xcf_xf {K : Frag} {C : Addr} (h : XcF K C) : L2.XfC K C := ⟨h.ga, h.gg, h.exC, h.hd⟩
def tSuite (K : Frag) (f : Str) (a : Addr) (cls : Value) (d : Option Addr) (te : TE) (ts : TE → TS) : TS := fun D σ H => ∃ C, cls = .ref C ∧ L2.XfC K C ∧ PySem.W.findIn K (.ref C) f = some none ∧ ts (tXf a cls d C f te) D σ H
theorem exc_zip {us : List (Str × V)} {fs : List (Str × PyData)} (h : us.map (·.1) = fs.map (·.1)) : (us.map fun p => PyData.str p.1).zip (fs.map (·.2)) = fs.map fun p => (.str p.1, p.2) := by
  have e : (us.map fun p => PyData.str p.1) = fs.map fun p => PyData.str p.1 := by
    have := congrArg (List.map PyData.str) h
    rw [List.map_map, List.map_map] at this
    exact this
  rw [e, List.zip_map']
def XEk (K : Frag) (ys : List Str) : Prop := ∀ c ∈ ys, ∀ cv, ClsV K c cv → ExcK K cv
theorem ek_of {K : Frag} {c : Str} {C : Addr} (e : PySem.W.nsIn K mainGlobals c = some (some (.ref C))) (h : XcF K C) (t : ∀ T ∈ (["int", "bool", "str", "tuple", "list"] : List String), PySem.W.kitOne K (.ref C) (.type T) = some false) : ∀ cv, ClsV K c cv → ExcK K cv := fun cv q => ⟨C, q.eq e, h, t⟩
theorem ds_try2 {y1 f1 y2 f2 n1 n2 : Str} {i1 i2 j : Nat} {body : List Stmt} {b1 b2 : Stmt} {u : DS} {ys : List Str} (R : XRel X.K X.mg L M F) (Ek : XEk X.K ys) (tk : Takes X E) (hN : X.N.Nodup) (hm1 : y1 ∈ M) (hm2 : y2 ∈ M) (hf1 : f1 ∈ F) (hf2 : f2 ∈ F) (hy1 : y1 ∈ ys)
    (hb : ∀ (W : WX) (pn : List (Addr × Obj)) (xe : Value → Shared → Prop), Takes (X.tr pn xe) W → DSs (X.tr pn xe) W Z0 body u)
    (hs1 : ∀ (a : Addr) (oe : Obj) (pn : List (Addr × Obj)) (te : TE), PE (X.suite a ((a, oe) :: pn)) (.Attribute (.Name n1 p1) f1 p2) te → PSs (X.suite a ((a, oe) :: pn)) [b1] (tAsg (tLst (tCons te (tCons (tVar i1) tNil))) (gName j)))
    (hs2 : ∀ (a : Addr) (oe : Obj) (pn : List (Addr × Obj)) (te : TE), PE (X.suite a ((a, oe) :: pn)) (.Attribute (.Name n2 p3) f2 p4) te → PSs (X.suite a ((a, oe) :: pn)) [b2] (tRet te))
    (hv1 : ∀ (a : Addr) (oe : Obj) (pn : List (Addr × Obj)), PE (X.suite a ((a, oe) :: pn)) (.Name n1 p1) (tVar i1))
    (hv2 : ∀ (a : Addr) (oe : Obj) (pn : List (Addr × Obj)), PE (X.suite a ((a, oe) :: pn)) (.Name n2 p3) (tVar i2))
    (hs : X.stack = X.env :: X.outer := by rfl) (hf : X.env.frame = some X.env.locals := by rfl) (hex : X.ex = [] := by rfl)
    (hi1 : X.N[i1]? = some n1 := by rfl) (hln1 : X.env.kindOf n1 = some .local := by rfl) (hi2 : X.N[i2]? = some n2 := by rfl) (hln2 : X.env.kindOf n2 = some .local := by rfl)
    (hij : i1 ≠ j := by decide)
    (ha1 : attributeBase (.Name n1 p1) f1 X.env (eval (.Name n1 p1) X.env) = eval (.Name n1 p1) X.env := by rfl) (ha2 : attributeBase (.Name n2 p3) f2 X.env (eval (.Name n2 p3) X.env) = eval (.Name n2 p3) X.env := by rfl)
    (hg1 : Gl X y1 := by rfl) (hn1 : y1 ≠ "__name__" := by decide) (hd1 : (y1 == ("__debug__" : Str)) = false := by decide)
    (hg2 : Gl X y2 := by rfl) (hn2 : y2 ≠ "__name__" := by decide) (hd2 : (y2 == ("__debug__" : Str)) = false := by decide) :
    DSt X E Z0 (.Try body [.ExceptHandler (some (.Name y1 np1)) (some n1) [b1] pos1, .ExceptHandler (some (.Name y2 np2)) (some n2) [b2] pos2] [] [] pos) (wTry2 L y1 f1 i1 j y2 f2 u) := by
  obtain ⟨u1, c1, q1, q2, q3, q4⟩ := nm_val (p := np1) (R.nms y1 hm1) hg1 hn1 hd1
  obtain ⟨u2, c2, r1, r2, r3, r4⟩ := nm_val (p := np2) (R.nms y2 hm2) hg2 hn2 hd2
  have hk : HdsK X [.ExceptHandler (some (.Name y1 np1)) (some n1) [b1] pos1, .ExceptHandler (some (.Name y2 np2)) (some n2) [b2] pos2]
      [(u1, i1, fun a cls d => tSuite X.K f1 a cls d (tVar i1) fun te => tAsg (tLst (tCons te (tCons (tVar i1) tNil))) (gName j)),
       (u2, i2, fun a cls d => tSuite X.K f2 a cls d (tVar i2) tRet)] := by
    refine .cons q3 hi1 hln1 (fun a oe cls d pn hz hfl => ⟨fun pins s σ H D I h => ?_⟩) (.cons r3 hi2 hln2 (fun a oe cls d pn hz hfl => ⟨fun pins s σ H D I h => ?_⟩) .nil)
    · obtain ⟨C, e, T, hno, h⟩ := h
      exact (hs1 a oe pn _ (pe_xf T hno hz hfl (hv1 a oe pn) ha1)).run pins s σ H D I h
    · obtain ⟨C, e, T, hno, h⟩ := h
      exact (hs2 a oe pn _ (pe_xf T hno hz hfl (hv2 a oe pn) ha2)).run pins s σ H D I h
  refine ⟨psI (ps_try_keeps (tb := fun W => upS X.K W Z0 u) hs hf hex hN tk (fun W pn xe tk' _ => (hb W pn xe tk').run) hk) fun D σ H ⟨Z, sl, Dd, h, l0, ok, so, w, en⟩ => ?_⟩
  refine ⟨Z, sl, _, h, l0, ok, so, w, ⟨en.nx, en.rt, fun Z' σ' sl' c x d fs l0' k' ok' so' xd cv hx => ?_, en.bk, en.ct⟩⟩
  obtain ⟨hL, hx⟩ := hx
  obtain ⟨C, rfl, xf⟩ := R.own x hL c cv
  refine ⟨_, (R.rel x hL _ cv y1 hm1 u1 q1).2, fun hb1 li1 a na => ?_, fun hb1 => ⟨_, (R.rel x hL _ cv y2 hm2 u2 r1).2, fun hb2 li2 a na => ?_, fun hb2 => ?_⟩⟩
  · rw [if_pos hb1] at hx
    obtain ⟨rfl, dd, hl, hx⟩ := hx
    cases d with
    | none =>
      obtain rfl : fs = [] := xd
      cases hl
    | some dx =>
      obtain ⟨nW, us, e1, e2, e3⟩ := xd
      obtain ⟨v, hv, iv⟩ := lookup_im e2 e3 hl
      refine ⟨C, rfl, (xcf_xf xf), R.fld _ hL _ cv f1 hf1, .ref a, List.getElem?_set_self li1, rfl, rfl, dx, us, v, rfl, e1, hv, .ref a, List.getElem?_set_self li1, ?_⟩
      refine ⟨(by show 2 ≤ sizeLine; rw [sizeLine_eq]; decide), fun p np na' => ?_⟩
      have l1 := ok'.leNew (o := .lst [v, .ref a]) np
      have ok1 := ok'.new (o := .lst [v, .ref a]) np
      have na1 : (Z'.new p (.lst [v, .ref a])).H a = none := na'
      have l2 := ok1.leNew (o := ExO (.ref C) (some dx) a) na1
      have ok2 := ok1.new (o := ExO (.ref C) (some dx) a) na1
      have l := l1.trans l2
      have hpa : p ≠ a := fun z => by
        subst z
        have : (upd Z'.H p (.lst [v, .ref p])) p = none := na'
        rw [upd_same] at this
        cases this
      have iA : Im X.K ((Z'.new p (.lst [v, .ref a])).new a (ExO (.ref C) (some dx) a)).W ((Z'.new p (.lst [v, .ref a])).new a (ExO (.ref C) (some dx) a)).H (.ref a) (excD x fs) := by
        have i := Im.exc (K := X.K) (W := ((Z'.new p (.lst [v, .ref a])).new a (ExO (.ref C) (some dx) a)).W) (H := ((Z'.new p (.lst [v, .ref a])).new a (ExO (.ref C) (some dx) a)).H) (us := us) (ds := fs.map (·.2)) (d := some dx) (a := a) cv (Ek x hy1 _ cv) upd_same (fun w => ok1.nw na1 w)
          (xu_tr l.stay (d := some dx) ⟨nW, e1⟩) (ImAll.tr l.stay e3)
        rw [exc_zip e2] at i
        exact i
      have iP : Rp X.K ((Z'.new p (.lst [v, .ref a])).new a (ExO (.ref C) (some dx) a)) (.ref p) (.d (.list [dd, excD x fs])) :=
        Im.lst (upd_keep na1 upd_same) (l2.stay.g p _ upd_same (fun w => ok'.nw np w)) (.cons (iv.tr l.stay) (.cons iA .nil))
      exact en.nx _ _ _ (l0'.trans l) (k'.trans l.stay) ok2 ((((so'.tr l).setAny i1 _).set j iP).setN i1) hx
  · rw [if_neg (by rw [hb1]; decide), if_pos hb2] at hx
    obtain ⟨rfl, dd, hl, hx⟩ := hx
    cases d with
    | none =>
      obtain rfl : fs = [] := xd
      cases hl
    | some dx =>
      obtain ⟨nW, us, e1, e2, e3⟩ := xd
      obtain ⟨v, hv, iv⟩ := lookup_im e2 e3 hl
      exact ⟨C, rfl, (xcf_xf xf), R.fld _ hL _ cv f2 hf2, .ref a, List.getElem?_set_self li2, rfl, rfl, dx, us, v, rfl, e1, hv, en.rt Z' v (.d dd) l0' ok' iv hx⟩
  · rw [if_neg (by rw [hb1]; decide), if_neg (by rw [hb2]; decide)] at hx
    exact en.ex Z' σ' sl' (.ref C) x d fs l0' k' ok' so' xd cv hx
end
end Pz
set_option maxRecDepth 100000
namespace L2
open PySem PySem.Spec PyProof.Rows
def PTK (X : Cx) (e : Expr) (t : TT) : Prop := ∀ (pins : List (Addr × Obj)) (s : Shared) (σ : St) (H : Hp) (Q : Bool → Hp → Prop), Inv X pins σ H s → t σ H Q →
  wpAny (model X.prog X.w) X.A (isTrue e X.env (eval e X.env)) (fun b s' => 1 ≤ s'.toks ∧ TP X pins σ Q b s') X.xe s
section
variable {X : Cx} {a b c : Expr} {ta tb : TE} {tA : TT} {pos cp : Pos} {k : Int} {j : Nat}
theorem ptk_cmp {op : CmpOp} {r : R2} (ho : OpR X (compareOp op) r) (ha : PE X a ta) (hm : behindInMarks op (.Constant (.int k) j cp) = false) : PTK X (.Compare a [op] [.Constant (.int k) j cp] pos) (tTest (tOp r ta (tC (.int k)))) := by
  intro pins s σ H Q I h
  refine wpAny_isTrue_Compare1 (thn (ha.run pins s σ H _ I h) fun v s1 ⟨x, H1, I1, r1, q1⟩ => wpAny_Constant_int ?_) hm
  refine wpAny_mono (PySem.wpAny_toks_of (n := 1) (s := { s1 with toks := s1.toks + 1 }) (Nat.le_add_left 1 s1.toks) (ho pins _ σ H1 x (.int k) v _ _ (I1.tok _) r1 ⟨_, rfl⟩ q1)) (fun c s3 ⟨hk, z, H3, I3, r3, k', e, q3⟩ => ?_) fun _ _ z => z.2
  subst e
  cases r3
  exact wpAny_truthy_bool ⟨hk, H3, I3, q3⟩
theorem pe_ifExpK (hc : PTK X c tA) (ha : PET X a ta) (hb : PE X b tb) : PE X (.IfExp c a b pos) (tIf tA ta tb) := by
  refine ⟨fun pins s σ H Q I h => ?_⟩
  refine wpAny_IfExp (thn (hc pins s σ H _ I h) fun d s1 ⟨hk, H1, I1, q1⟩ => ?_)
  cases d with
  | true => exact ha pins s1 σ H1 Q hk I1 q1
  | false => exact hb.run pins s1 σ H1 Q I1 q1
end
end L2
namespace Pz
open PySem PySem.Spec PyProof.Rows L2 TL PySem.W
variable [PenC]
section
variable {X : Cx} {E : WXs} {Z0 : Zs} {a b c o : Expr} {ta tb to : DE} {tA : DT} {pos cp c0 c1 apos : Pos} {k : Int} {j j1 : Nat} {y z : Str}
theorem dtk_cmp {op : CmpOp} {r : R2} {f : Sl → Sl → Sto → DK → Prop} (hd : D2 X.K r f) (ho : OpR X (compareOp op) r) (ha : DEx X E a ta) (hm : behindInMarks op (.Constant (.int k) j cp) = false) :
    L2.PTK X (.Compare a [op] [.Constant (.int k) j cp] pos) (upT X.K E (wTest (wOp f ta (wC (.d (.int k)))))) := by
  intro pins s σ H Q I h
  refine ptk_cmp ho ha.run hm pins s σ H Q I ?_
  obtain ⟨Z, sl, Qd, Ed, e, ok, so, w, kq, kx⟩ := h
  refine ⟨Z, sl, _, Ed, e, ok, so, w, (fun Z1 v s l1 ok1 r1 w1 => ?_), kx⟩
  have w1 : f s (.d (.int k)) Z1.st _ := w1
  show r v (.int k) Z1.H _
  refine hd Z1 v (.int k) s (.d (.int k)) _ _ ok1 r1 (Im.int k) w1 (fun Z2 v2 s2 l2 ok2 r2 w2 => ?_)
  split at w2
  · cases r2
    exact ⟨_, rfl, kq Z2 _ (l1.trans l2) ok2 w2⟩
  · exact w2.elim
def wRepl (to : DE) (y z : Str) : DE := fun Ed sl st Q => to Ed sl st fun s st => match vw st s with
  | some (.str x) => x.length + (x.length + 1) * z.length ≤ 16777216 ∧ Q (.d (.str (Txt.replace x y z))) st
  | _ => False
theorem wRepl_ap {Ed : DX} {sl : Sls} {st : Sto} {Q : DK} : wRepl to y z Ed sl st Q = (to Ed sl st fun s st => match vw st s with
  | some (.str x) => x.length + (x.length + 1) * z.length ≤ 16777216 ∧ Q (.d (.str (Txt.replace x y z))) st
  | _ => False) := rfl
theorem det_repl (ho : DEx X E o to) (hyz : (y == z) = false := by decide)
    (hst : starEach [.Constant (.str y) j c0, .Constant (.str z) j1 c1] X.env = [(false, eval (.Constant (.str y) j c0) X.env), (false, eval (.Constant (.str z) j1 c1) X.env)] := by rfl)
    (hbase : attributeBase o "replace" X.env (eval o X.env) = eval o X.env := by rfl) (hline : (apos.endLine == pos.line) = true := by rfl) :
    PET X (.Call (.Attribute o "replace" apos) [.Constant (.str y) j c0, .Constant (.str z) j1 c1] [] pos) (upE X.K E (wRepl to y z)) := by
  intro pins s σ H Q h0 I ⟨Z, sl, Qd, Ed, e, ok, so, w, kq, kx⟩
  refine CwR.pet_replC ho.run hyz hst hbase hline pins s σ H Q h0 I ⟨Z, sl, _, Ed, e, ok, so, w, (fun Z1 v s l1 ok1 r1 w1 => ?_), kx⟩
  dsimp only at w1
  split at w1
  · rename_i x ex
    obtain rfl := r1.str ex
    exact ⟨x, rfl, w1.1, (kq.le l1).now ok1 (.str _) w1.2⟩
  · exact w1.elim
theorem de_ifR (hc : L2.PTK X c (upT X.K E tA)) (ha : PET X a (upE X.K E ta)) (hb : DEx X E b tb) : DEx X E (.IfExp c a b pos) (wIfE tA ta tb) :=
  ⟨peI (pe_ifExpK hc ha hb.run) fun σ H Q ⟨Z, sl, Qd, Ed, h, ok, so, w, k, kx⟩ => ⟨Z, sl, _, Ed, h, ok, so, w, fun Z1 b l1 ok1 w1 => by
    cases b with
    | true => exact ⟨Z1, sl, Qd, Ed, rfl, ok1, so.tr l1, w1, k.le l1, kx.le l1⟩
    | false => exact ⟨Z1, sl, Qd, Ed, rfl, ok1, so.tr l1, w1, k.le l1, kx.le l1⟩, kx⟩⟩
end
end Pz
set_option maxRecDepth 100000
namespace Pz
variable [PenC]
open PySem PySem.Spec PyProof.Rows L2 TL
def colL (b : Int) : List Nat → Int → Int
  | [], f => f
  | c :: cs, f => colL b cs (if c = 32 then f + 1 else (f / b + 1) * b)
theorem tab_step {b : Int} (h0 : 0 < b) (f : Int) : (f / b + 1) * b = f - f % b + b := by
  have := Int.mul_ediv_add_emod f b
  rw [Int.add_mul, Int.one_mul, Int.mul_comm]; omega
theorem colL_le {b : Int} (h0 : 0 < b) (h1 : b ≤ 10 ^ 9) : ∀ (l : List Nat) (f : Int), 0 ≤ f → 0 ≤ colL b l f ∧ colL b l f ≤ f + 10 ^ 9 * l.length
  | [], f, h => ⟨h, by simp [colL]⟩
  | c :: cs, f, h => by
    have e := tab_step h0 f
    have := Int.emod_nonneg f (by omega : b ≠ 0)
    have := Int.emod_lt_of_pos f h0
    have q : 0 ≤ (if c = 32 then f + 1 else (f / b + 1) * b) ∧ (if c = 32 then f + 1 else (f / b + 1) * b) ≤ f + 10 ^ 9 := by
      split
      · omega
      · rw [e]; omega
    have := colL_le h0 h1 cs _ q.1
    simp only [colL, List.length_cons]
    omega
def rtA : List Nat → List Nat → Nat → List Nat × Nat
  | [], acc, t => (acc, t)
  | c :: l, acc, t => if c = 9 then rtA l (acc ++ [t]) 0 else rtA l acc (t + 1)
def runsL (l : List Nat) : List Nat := (rtA l [] 0).1
def tailL (l : List Nat) : Nat := (rtA l [] 0).2
theorem rtA_acc : ∀ (l acc : List Nat) (t : Nat), rtA l acc t = (acc ++ (rtA l [] t).1, (rtA l [] t).2)
  | [], acc, t => by simp [rtA]
  | c :: l, acc, t => by
    unfold rtA
    split
    · rw [rtA_acc l (acc ++ [t]), rtA_acc l ([] ++ [t])]; simp
    · rw [rtA_acc l acc]
def indP (rs : List Nat) : List Nat := (rs.map fun r => List.replicate r 32 ++ [9]).flatten
def indL (rs : List Nat) (t : Nat) : List Nat := indP rs ++ List.replicate t 32
theorem indP_cons {r : Nat} {rs : List Nat} : indP (r :: rs) = List.replicate r 32 ++ 9 :: indP rs := by simp [indP]
theorem indP_app {a b : List Nat} : indP (a ++ b) = indP a ++ indP b := by simp [indP]
theorem indP_len : ∀ (rs : List Nat), (indP rs).length = rs.sum + rs.length
  | [] => rfl
  | r :: rs => by rw [indP_cons, List.length_append, List.length_cons, indP_len rs, List.length_replicate, List.sum_cons, List.length_cons]; omega
theorem indL_len {rs : List Nat} {t : Nat} : (indL rs t).length = rs.sum + rs.length + t := by rw [indL, List.length_append, indP_len, List.length_replicate]
theorem rt_sp : ∀ (n : Nat) (l : List Nat) (t : Nat), rtA (List.replicate n 32 ++ l) [] t = rtA l [] (n + t)
  | 0, l, t => by simp
  | n + 1, l, t => by
    rw [List.replicate_succ, List.cons_append, rtA, if_neg (by decide), rt_sp n]
    congr 1; omega
theorem rt_ind (t : Nat) : ∀ rs : List Nat, rtA (indL rs t) [] 0 = (rs, t)
  | [] => by have := rt_sp t [] 0; rw [List.append_nil] at this; simpa [indL, indP, rtA] using this
  | r :: rs => by
    have e : indL (r :: rs) t = List.replicate r 32 ++ 9 :: indL rs t := by simp [indL, indP_cons]
    rw [e, rt_sp, show rtA (9 :: indL rs t) [] (r + 0) = rtA (indL rs t) ([] ++ [r]) 0 from rfl, rtA_acc, rt_ind t rs]
    rfl
theorem runs_ind {rs : List Nat} {t : Nat} : runsL (indL rs t) = rs := by rw [runsL, rt_ind]
theorem tail_ind {rs : List Nat} {t : Nat} : tailL (indL rs t) = t := by rw [tailL, rt_ind]
def blankL (l : List Nat) : Prop := ∀ c ∈ l, c = 32 ∨ c = 9
theorem blank_ind {rs : List Nat} {t : Nat} : blankL (indL rs t) := by
  intro c m
  simp only [indL, indP, List.mem_append, List.mem_flatten, List.mem_map, List.mem_replicate] at m
  rcases m with ⟨l, ⟨r, _, rfl⟩, m⟩ | m
  · simp only [List.mem_append, List.mem_replicate, List.mem_singleton] at m
    rcases m with m | m
    · exact .inl m.2
    · exact .inr m
  · exact .inl m.2
theorem rt_bound : ∀ (l acc : List Nat) (t : Nat), (rtA l acc t).1.sum + (rtA l acc t).1.length + (rtA l acc t).2 = acc.sum + acc.length + t + l.length
  | [], acc, t => by simp [rtA]
  | c :: l, acc, t => by
    unfold rtA
    split
    · rw [rt_bound l (acc ++ [t]) 0]; simp; omega
    · rw [rt_bound l acc (t + 1)]; simp; omega
theorem rt_len (l : List Nat) : (runsL l).sum + (runsL l).length + tailL l = l.length := by
  have := rt_bound l [] 0
  simpa [runsL, tailL] using this
theorem mem_sum : ∀ {l : List Nat} {x : Nat}, x ∈ l → x ≤ l.sum
  | y :: l, x, m => by
    rw [List.sum_cons]
    rcases List.mem_cons.mp m with rfl | m
    · omega
    · have := mem_sum m; omega
abbrev Run (x : Int) : Prop := 0 ≤ x ∧ x ≤ 60
theorem strOk_blank {z : Str} (h : blankL (tl z)) : PyData.strOk z = true := by
  rw [strOk_iff]
  intro c m
  rcases h c m with rfl | rfl <;> decide
def nsort (l : List Nat) : List Nat := (isort (l.map fun n : Nat => (n : Int))).map Int.toNat
theorem nsort_perm (l : List Nat) : (nsort l).Perm l := by
  have := (isort_perm (l.map fun n : Nat => (n : Int))).map Int.toNat
  rw [List.map_map] at this
  have e : (l.map (Int.toNat ∘ fun n : Nat => (n : Int))) = l := by
    conv => rhs; rw [← List.map_id l]
    exact List.map_congr_left fun a _ => by simp
  rw [e] at this
  exact this
theorem ind_of : ∀ (l acc : List Nat) (t : Nat), blankL l → indL (rtA l acc t).1 (rtA l acc t).2 = indP acc ++ List.replicate t 32 ++ l
  | [], acc, t, _ => by simp [rtA, indL]
  | c :: l, acc, t, h => by
    have h2 : blankL l := fun x m => h x (List.mem_cons_of_mem _ m)
    unfold rtA
    split
    · rename_i e
      rw [ind_of l _ 0 h2, indP_app, e]
      simp [indP]
    · rename_i e
      have : c = 32 := (h c List.mem_cons_self).resolve_right e
      rw [ind_of l _ _ h2, this, List.replicate_succ']
      simp
theorem ind_self {l : List Nat} (h : blankL l) : indL (runsL l) (tailL l) = l := by
  have := ind_of l [] 0 h
  simpa [runsL, tailL, indP] using this
def colR (w : Int) : List Nat → Int → Int
  | [], f => f
  | r :: rs, f => colR w rs (((f + r) / w + 1) * w)
theorem colL_sp (b : Int) : ∀ (n : Nat) (l : List Nat) (f : Int), colL b (List.replicate n 32 ++ l) f = colL b l (f + n)
  | 0, l, f => by simp
  | n + 1, l, f => by
    rw [List.replicate_succ, List.cons_append, colL, if_pos rfl, colL_sp b n]
    congr 1; omega
theorem colL_ind (b : Int) (t : Nat) : ∀ (rs : List Nat) (f : Int), colL b (indL rs t) f = colR b rs f + t
  | [], f => by have := colL_sp b t [] f; rw [List.append_nil] at this; simpa [indL, indP, colR, colL] using this
  | r :: rs, f => by
    have e : indL (r :: rs) t = List.replicate r 32 ++ 9 :: indL rs t := by simp [indL, indP_cons]
    rw [e, colL_sp, colL, if_neg (by decide), colL_ind b t rs]
    rfl
def divs (w : Nat) (rs : List Nat) : Nat := (rs.map fun r => r / w).sum
theorem divs_perm {w : Nat} {a b : List Nat} (h : a.Perm b) : divs w a = divs w b := (h.map _).sum_nat
theorem joinL_nil : ∀ xs : List (List Nat), TL.joinL [] xs = xs.flatten
  | [] => rfl
  | [x] => by simp [TL.joinL]
  | x :: y :: r => by
    have := joinL_nil (y :: r)
    simp only [TL.joinL] at *
    simp [this]
theorem join_flat (ys : List (List Nat)) : Txt.join (Str.ofString "") (ys.map SX.S) = SX.S ys.flatten := by
  rw [show Str.ofString "" = SX.S [] from rfl, SX.join_S, joinL_nil]
theorem Ints.sum_toI : ∀ {ds : List PyData}, Ints (fun x => 0 ≤ x) ds → (ds.map Pz.toI).sum = ((ds.map toN).sum : Nat)
  | [], _ => rfl
  | d :: ds, h => by
    obtain ⟨x, rfl, hx⟩ := h.head
    have := Ints.sum_toI h.tail
    simp only [List.map_cons, List.sum_cons, Pz.toI, toN] at *
    rw [this]
    omega
theorem Ints.le_sum {B : Nat} : ∀ {ds : List PyData}, Ints (fun x => 0 ≤ x) ds → (ds.map toN).sum ≤ B → Ints (fun x => 0 ≤ x ∧ x ≤ B) ds
  | [], _, _ => Ints.nil
  | d :: ds, h, hs => by
    obtain ⟨x, rfl, hx⟩ := h.head
    simp only [List.map_cons, List.sum_cons, toN] at hs
    exact Ints.cons ⟨hx, by omega⟩ (Ints.le_sum h.tail (by omega))
theorem Ints.sum_le {B : Int} : ∀ {ds : List PyData}, Ints (fun x => 0 ≤ x ∧ x ≤ B) ds → ((ds.map toN).sum : Int) ≤ B * ds.length
  | [], _ => by simp
  | d :: ds, h => by
    obtain ⟨x, rfl, hx⟩ := h.head
    have := Ints.sum_le h.tail
    simp only [List.map_cons, List.sum_cons, toN, List.length_cons] at *
    rw [Int.natCast_add, Int.natCast_add, Int.mul_add]
    omega
end Pz
set_option maxRecDepth 100000
namespace Pz
variable [PenC]
def colN (w : Nat) (rs : List Nat) (t : Nat) : Nat := w * (rs.length + divs w rs) + t
theorem colN_perm {w : Nat} {a b : List Nat} {t : Nat} (h : a.Perm b) : colN w a t = colN w b t := by rw [colN, colN, h.length_eq, divs_perm h]
open PySem PySem.Spec PyProof.Rows L2 TL
def gLen (d : PyData) : PyData := match d with
  | .str x => .int x.length
  | _ => .none
def unlike (f g : Int → Int) (d : PyData) : Option PyData := match d with
  | .int w => if f w = g w then none else some (.int 1)
  | _ => none
theorem len_st2 : (Str.ofString " \t").length = 2 := by rw [len_lit]; decide +kernel
end Pz
set_option maxRecDepth 100000
namespace Pz
variable [PenC]
open PySem PySem.Spec PyProof.Rows L2 TL
def muT : List Int := [0, 1, (-1), (-1), 0, (-1), 1, (-1), 0, 0, 1, (-1), 0, (-1), 1, 1, 0, (-1), 0, (-1), 0, 1, 1, (-1), 0, 0, 1, 0, 0, (-1), (-1), (-1), 0, 1, 1, 1, 0, (-1), 1, 1, 0, (-1), (-1), (-1), 0, 0, 1, (-1), 0, 0, 0, 1, 0, (-1), 0, 1, 0, 1, 1, (-1), 0, (-1), 1, 0, 0, 1, (-1), (-1), 0, 1, (-1), (-1), 0, (-1), 1, 0, 0, 1, (-1), (-1), 0, 0, 1, (-1), 0, 1, 1, 1, 0, (-1), 0, 1, 0, 1, 1, 1, 0, (-1), 0, 0, 0, (-1), (-1), (-1), 0, (-1), 1, (-1), 0, (-1), (-1), 1, 0, (-1), (-1), 1, 0, 0, 1, 1, 0, 0, 1, 1, 0, 0, 0, (-1), 0, 1, (-1), (-1), 0, 1, 1, 0, 0, (-1), (-1), (-1), 0, 1, 1, 1, 0, 1, 1, 0, 0, (-1), 0, (-1), 0, 0, (-1), 1, 0, (-1), 1, 1, 0, 1, 0, (-1), 0, (-1), 1, (-1), 0, 0, (-1), 0, 0, (-1), (-1), 0, 0, 1, 1, (-1), 0, (-1), (-1), 1, 0, 1, (-1), 1, 0, 0, (-1), (-1), 0, (-1), 1, (-1), 0, (-1), 0, (-1), 0]
def mu (q : Nat) : Int := muT.getD q 0
def gA (w a : Nat) : Int := if w % a = 0 then mu (w / a) else 0
def gL (w : Nat) : Nat → Nat → List Int
  | _, 0 => []
  | a, n + 1 => gA w a :: gL w (a + 1) n
def onesA (w : Nat) : Nat → Nat → List Nat
  | _, 0 => []
  | a, n + 1 => List.replicate (max 0 (gA w a - gA w (a + 1))).toNat a ++ onesA w (a + 1) n
def twosA (w : Nat) : Nat → Nat → List Nat
  | _, 0 => []
  | a, n + 1 => List.replicate (max 0 (gA w (a + 1) - gA w a)).toNat a ++ twosA w (a + 1) n
def apM (w : Nat) : Nat := max (onesA w 1 w).length (twosA w 1 w).length
def apO (w : Nat) : List Nat := List.replicate (apM w - (onesA w 1 w).length) 0 ++ onesA w 1 w
def apT (w : Nat) : List Nat := List.replicate (apM w - (twosA w 1 w).length) 0 ++ twosA w 1 w
abbrev mL (W k : Nat) : List Int := List.replicate (W - k + 1) 0 ++ gL W (W - k + 1) (k + 1)
end Pz
set_option maxRecDepth 100000
namespace Pz
variable [PenC]
open PySem PySem.Spec PyProof.Rows L2 TL
abbrev nI (l : List Nat) : List PyData := l.map fun n => PyData.int (n : Nat)
theorem colL_rt {z : Str} (h : blankL (tl z)) (w : Int) : colL w (tl z) 0 = colR w (runsL (tl z)) 0 + (tailL (tl z) : Nat) := by
  conv => lhs; rw [← ind_self h]
  exact colL_ind w _ _ 0
def apChk (w : Nat) : Bool :=
  let o := onesA w 1 w
  let t := twosA w 1 w
  (List.range w).all (fun v => v == 0 || (o.foldl (fun n a => n + a / v) 0 == t.foldl (fun n a => n + a / v) 0)) && (o.foldl (fun n a => n + a / w) 0 != t.foldl (fun n a => n + a / w) 0)
def IsFd (a : List Nat) (r : Nat) (b : List Nat) (s : Nat) (d : PyData) : Prop := (d = .none ∧ nsort a = nsort b ∧ r = s) ∨ ∃ w : Nat, d = .int w ∧ 1 ≤ w ∧ w ≤ 1001 ∧ colN w a r ≠ colN w b s ∧ ∀ v, 1 ≤ v → v < w → colN v a r = colN v b s
theorem IsFd.symm {a b : List Nat} {r s : Nat} {d : PyData} (h : IsFd a r b s d) : IsFd b s a r d := by
  rcases h with ⟨h, h1, h2⟩ | ⟨w, h, h1, h2, h3, h4⟩
  · exact .inl ⟨h, h1.symm, h2.symm⟩
  · exact .inr ⟨w, h, h1, h2, fun e => h3 e.symm, fun v x y => (h4 v x y).symm⟩
theorem same_cols {a b : List Nat} {r s w : Nat} (h1 : nsort a = nsort b) (h2 : r = s) : colN w a r = colN w b s := by
  rw [← colN_perm (nsort_perm a), ← colN_perm (nsort_perm b), h1, h2]
theorem IsFd.uniq {a b : List Nat} {r s : Nat} {d e : PyData} (h : IsFd a r b s d) (k : IsFd a r b s e) : d = e := by
  rcases h with ⟨h, h1, h2⟩ | ⟨w, h, h1, h2, h3, h4⟩
  · rcases k with ⟨k, _⟩ | ⟨w, _, _, _, k3, _⟩
    · rw [h, k]
    · exact absurd (same_cols h1 h2) k3
  · rcases k with ⟨k, k1, k2⟩ | ⟨w', k, k1, k2, k3, k4⟩
    · exact absurd (same_cols k1 k2) h3
    · rw [h, k]
      rcases Nat.lt_trichotomy w w' with x | x | x
      · exact absurd (k4 w h1 x) h3
      · rw [x]
      · exact absurd (h4 w' k1 x) k3
def unlikeW (f g : Int → Int) (d : PyData) : Option PyData := match d with
  | .int w => if f w = g w then none else some (.int w)
  | _ => none
theorem IsFd.rep {a b : List Nat} {r s : Nat} {d : PyData} (h : IsFd a r b s d) : RepOk (.list [d, d]) := by
  rcases h with ⟨rfl, _⟩ | ⟨w, rfl, h1, h2, _⟩
  · exact ((RepL.cons rp_n (RepL.cons rp_n RepL.nil)).lst).r (by decide) (by decide)
  · exact ((RepL.cons (rp_i (small100 (by omega) (by omega))) (RepL.cons (rp_i (small100 (by omega) (by omega))) RepL.nil)).lst).r (by decide) (by decide)
theorem IsFd.at {a b : List Nat} {r s w : Nat} {d : PyData} (h : IsFd a r b s d) (h1 : 1 ≤ w) (h3 : colN w a r ≠ colN w b s) (h4 : ∀ v, 1 ≤ v → v < w → colN v a r = colN v b s) (h2 : w ≤ 1001) : d = .int w :=
  h.uniq (.inr ⟨w, rfl, h1, h2, h3, h4⟩)
end Pz
set_option maxRecDepth 100000
namespace Pz
open PySem PySem.Spec PyProof.Rows L2 TL
variable [PenC]
def inW (ws : List PyData) (i : Int) : Bool := ws.any fun z => PyData.eqv z (.int i)
def missD (ws : List PyData) : Nat → Int → PyData
  | 0, _ => .none
  | n + 1, lo => if inW ws lo then missD ws n (lo + 1) else .int lo
def isNo (d : PyData) : Bool := match d with
  | .none => true
  | _ => false
def decD (ws : List PyData) (l : Int) (tf : Bool) : Bool :=
  if tf then decide (l = 0) || (inW ws 1 && decide (max 2 l ≤ lmax (ws.map toI))) else isNo (missD ws l.toNat 1) && decide (l < lmax (ws.map toI))
def lackF (ws : List PyData) (d : PyData) : Option PyData := match d with
  | .int i => if inW ws i then none else some (.int i)
  | _ => none
def greatF (l : Int) (d : PyData) : Option PyData := match d with
  | .int i => if 2 ≤ i ∧ l ≤ i then some (.int i) else none
  | _ => none
end Pz
set_option maxRecDepth 100000
namespace Pz
open PySem PySem.Spec PyProof.Rows L2 TL
variable [PenC]
def cL (ds : List Int) (m : Nat) : Nat → List Int
  | 0 => []
  | k + 1 => (ds.getD (m - k - 1) 0 - ((List.range ((m - (m - k)) / (m - k))).map fun i => (cL ds m k).getD (2 * (m - k) + i * (m - k) - (m - k + 1)) 0).sum) :: cL ds m k
def cA (ds : List Int) (a : Nat) : Int := if a = 0 then 0 else (cL ds ds.length (ds.length + 1 - a)).headD 0
def onesC (c : Nat → Int) : Nat → Nat → List Nat
  | _, 0 => []
  | a, n + 1 => List.replicate (max 0 (c a - c (a + 1))).toNat a ++ onesC c (a + 1) n
def twosC (c : Nat → Int) : Nat → Nat → List Nat
  | _, 0 => []
  | a, n + 1 => List.replicate (max 0 (-(c a - c (a + 1)))).toNat a ++ twosC c (a + 1) n
def apN (c : Nat → Int) (m : Nat) : Nat := max (onesC c 1 m).length (twosC c 1 m).length
def apX (c : Nat → Int) (m : Nat) : List Nat := List.replicate (apN c m - (onesC c 1 m).length) 0 ++ onesC c 1 m
def apY (c : Nat → Int) (m : Nat) : List Nat := List.replicate (apN c m - (twosC c 1 m).length) 0 ++ twosC c 1 m
def dvI (T b : Nat) : Int := if b % T = 0 then 1 else 0
def kdP (ds : List Int) (m k : Nat) : List (Int × PyData) := (List.range k).map fun i => (((m - i : Nat) : Int), .int (cA ds (m - i)))
def kdC (ds : List Int) (m k : Nat) : KD := (kdP ds m k).map fun p => (.inl p.1, p.2)
def memL (ws : List PyData) : List Int := (List.range (if ws = [] then 0 else lmax (ws.map toI)).toNat).map fun i => if inW ws (i + 1 : Nat) then 1 else 0
def okC (ds : List Int) : Prop := (apX (cA ds) ds.length).sum + (apX (cA ds) ds.length).length ≤ 900 ∧ (apY (cA ds) ds.length).sum + (apY (cA ds) ds.length).length ≤ 900
instance {ds : List Int} : Decidable (okC ds) := by unfold okC; infer_instance
def gInt : PyData → Int
  | .str x => x.length
  | _ => 0
def memI (l : List Int) : List Int := (List.range (if l = [] then 0 else lmax l).toNat).map fun i => if (l.any fun a => decide (a = (i + 1 : Nat))) then 1 else 0
def everyI : List Int := ((List.range 63).map fun i => (1 + (i : Nat) : Int)) ++ ([1000, 10 ^ 9] : List Int)
def goodI (l : List Int) : Bool := (l.all fun x => decide (1 ≤ x ∧ x ≤ 6)) && decide (l.length ≤ 6) && decide (okC (memI l)) && ((apX (cA (memI l)) (memI l).length).all fun r => decide (r < 61)) && ((apY (cA (memI l)) (memI l).length).all fun r => decide (r < 61)) && ((everyI.filter fun w => decide ((memI l).getD (w.toNat - 1) 0 ≠ 0)) == l)
def someI (b : Nat) : List Int := ((List.range 6).map fun i => ((1 + i : Nat) : Int)).filter fun w => decide (b / 2 ^ (w.toNat - 1) % 2 = 1)
end Pz
set_option maxRecDepth 100000
namespace Pz
open PySem PySem.Spec PyProof.Rows L2 TL
variable [PenC]
def fdN (cs : List Int) : Nat := (cs.getD 0 0).toNat
def fdT (cs : List Int) : Int := cs.getD (fdN cs) 0 / ((fdN cs : Int) + 1)
def fdR (cs : List Int) : Int := cs.getD (fdN cs) 0 % ((fdN cs : Int) + 1)
def dsI (cs : List Int) : List Int := (List.range (fdN cs)).map fun i => (cs.getD i 0 - fdR cs) / ((i + 1 : Nat) : Int) - fdT cs
def fltAt (cs : List Int) (w : Nat) : Option PyData :=
  if (cs.getD (w - 1) 0 - fdR cs) % (w : Int) ≠ 0 then some (.tuple [.str (Str.ofString "remainder"), .int (w : Nat)])
  else if cA (dsI cs) w < cA (dsI cs) (w + 1) then some (.tuple [.str (Str.ofString "rise"), .int (w : Nat)]) else none
def fltL (cs : List Int) : Nat → Option PyData
  | 0 => none
  | w + 1 => match fltAt cs (w + 1) with
    | some d => some d
    | none => fltL cs w
def fltT (cs : List Int) : PyData := match fltL cs (fdN cs) with
  | some d => d
  | none => if 0 < fdN cs ∧ fdT cs < cA (dsI cs) 1 then .tuple [.str (Str.ofString "tabs")] else .none
def shapeB (d : PyData) : Bool := match d with
  | .list (d0 :: ds) => (d0 :: ds).all (intFrom · 0) && decide (toI d0 ≤ 60) && decide (((d0 :: ds).length : Int) = toI d0 + 1)
  | _ => false
def fltD (d : PyData) : PyData := match d with
  | .list ds => if shapeB (.list ds) = true then fltT (ds.map toI) else .tuple [.str (Str.ofString "shape")]
  | _ => .tuple [.str (Str.ofString "shape")]
structure ShapeI (cs : List Int) : Prop where
  nn : ∀ x ∈ cs, 0 ≤ x
  le : fdN cs ≤ 60
  ln : cs.length = fdN cs + 1
  hd : cs.getD 0 0 = (fdN cs : Int)
def geC (rs : List Nat) (w : Nat) : Nat := (rs.filter fun r => decide (w ≤ r)).length
structure ColsOf (cs : List Int) (rs : List Nat) (t : Nat) : Prop where
  n : fdN cs = rs.sum + rs.length + t
  at_ : ∀ w, 0 < w → w ≤ fdN cs + 1 → cs.getD (w - 1) 0 = (w * (rs.length + divs w rs) + t : Nat)
def kdF (cs : List Int) (k : Nat) : KD := (.inl ((fdN cs + 1 : Nat) : Int), .int 0) :: kdC (dsI cs) (fdN cs) k
def lwF (cs : List Int) (k : Nat) : List PyData := (List.range (fdN cs + 2)).map fun i => .int (if fdN cs - k < i then cA (dsI cs) i else 0)
structure ItmI (d : PyData) : Prop where
  r : RepP 200 1 d
  i : ∀ i, d = .int i → i.natAbs < 10 ^ 60
def colsD (z : Str) : List PyData := (List.range (z.length + 1)).map fun i => PyData.int (colR ((i + 1 : Nat) : Int) (runsL (tl z)) 0 + (tailL (tl z) : Nat))
end Pz
set_option maxRecDepth 100000
namespace Pz
open PySem PySem.Spec PyProof.Rows L2 TL
variable [PenC]
def spS (n : Nat) : Str := SX.S (List.replicate n 32)
def dcL (ds : List Int) : List Int := (List.range ds.length).map fun i => cA ds (i + 1) - cA ds (i + 2)
def szZ (ds : List Int) : Nat := max (onesC (cA ds) 1 ds.length).sum (twosC (cA ds) 1 ds.length).sum + apN (cA ds) ds.length
def cz (dd : List Int) (k : Nat) : List PyData := (List.range (dd.length + 2)).map fun i => PyData.int (if i + k ≤ dd.length then 0 else cA dd i)
theorem lay_strs : ∀ {l : List Str}, (∀ z ∈ l, PyData.strOk z = true) → PyData.canLayAll0 (l.map .str) = true ∧ PyData.depthAll (l.map .str) = 0
  | [], _ => ⟨rfl, rfl⟩
  | z :: l, h => by
    obtain ⟨h1, h2⟩ := lay_strs fun y m => h y (List.mem_cons_of_mem _ m)
    rw [List.map_cons, PyData.canLayAll0, PyData.depthAll, h1, h2, PyData.canLay0, h z List.mem_cons_self]
    simp [PyData.depth]
theorem sh_strs {l : List Str} (h : ∀ z ∈ l, PyData.strOk z = true) : SeqAt.shaped (.list (l.map .str)) = true := by
  obtain ⟨h1, h2⟩ := lay_strs h
  simp [SeqAt.shaped, PyData.canLay0, h1, PyData.depth, h2]
def halfI (x : Int) : Int := (if x < 0 then -x else x) / 2 * (if x < 0 then -1 else 1)
end Pz
set_option maxRecDepth 100000
namespace Pz
open PySem PySem.Spec PyProof.Rows L2 TL
variable [PenC]
def colZ (w : Int) (z : Str) : Int := colR w (runsL (tl z)) 0 + (tailL (tl z) : Nat)
theorem tl_cutS {z : Str} {lo hi : Option Int} : tl (cutS z lo hi) = cutD (tl z) lo hi := by
  unfold cutS cutD
  rw [← len_tl]
theorem colZ_L {z : Str} (h : blankL (tl z)) (w : Int) : colZ w z = colL w (tl z) 0 := (colL_rt h w).symm
theorem colZ_nn {z : Str} (h : blankL (tl z)) {w : Int} (h0 : 0 < w) (h1 : w ≤ 10 ^ 9) : 0 ≤ colZ w z ∧ colZ w z ≤ 10 ^ 9 * z.length := by
  rw [colZ_L h, Pz.len_tl]
  have := colL_le h0 h1 (tl z) 0 (Int.le_refl _)
  simpa using this
end Pz
set_option maxRecDepth 100000
namespace Pz
open PySem PySem.Spec PyProof.Rows L2 TL
variable [PenC]
abbrev Rn (x : Int) : Prop := 0 ≤ x ∧ x ≤ 10000
def lsD : PyData → List PyData
  | .list l => l
  | .tuple l => l
  | _ => []
def isSeq (x : PyData) : Prop := ∃ l, x = .list l ∨ x = .tuple l
def szD (x : PyData) (m : Int) : Nat := ((lsD x).map toN).sum + (lsD x).length + m.toNat
def stD (x : PyData) (m : Int) : PyData := .str (SX.S (indL ((lsD x).map toN) m.toNat))
def dueD (x : PyData) (m : Int) : PyData := if 1000 < szD x m then .tuple [.str "long", .int (szD x m)] else .list [stD x m]
def preD (x : PyData) (m : Int) : Prop := isSeq x ∧ Ints Rn (lsD x) ∧ (lsD x).length ≤ 1000 ∧ 0 ≤ m ∧ m ≤ 100000
abbrev okZ (z : Str) (w : Int) : Prop := blankL (tl z) ∧ z.length ≤ 1000 ∧ 0 < w ∧ w ≤ 10 ^ 9
def spZ (z : Str) (w : Int) : PyData := .str (SX.S (indL [] (colZ w z).toNat))
def dueE (z : Str) (w : Int) : PyData := if 1000 < colZ w z then .tuple [.str "long", .int (colZ w z)] else .list [spZ z w]
end Pz
set_option maxRecDepth 100000
namespace Pz
open PySem PySem.Spec PyProof.Rows L2 TL
variable [PenC]
def rsI (cs : List Int) : List Nat := List.replicate (fdT cs - cA (dsI cs) 1).toNat 0 ++ onesC (cA (dsI cs)) 1 (fdN cs)
def inD : PyData → PyData
  | .list ds => .str (SX.S (indL (rsI (ds.map toI)) (fdR (ds.map toI)).toNat))
  | _ => .none
def hdI (d : PyData) : PyData := match fltD d with
  | .none => inD d
  | f => .list [f]
end Pz
set_option maxRecDepth 100000
namespace Pz
open PySem PySem.Spec PyProof.Rows L2 TL
variable [PenC]
def gMax (z : Str) : Int := lmax ((runsL (tl z) ++ [tailL (tl z)]).map fun n : Nat => (n : Int))
def gMaxD (d : PyData) : Int := match d with
  | .str z => gMax z
  | _ => 0
def lonG (ls : List PyData) : Int := if ls = [] then 0 else lmax (ls.map gMaxD)
def sgnI (x y : Int) : Int := (if y < x then 1 else 0) - (if x < y then 1 else 0)
def sgnL (a b : Str) : List PyData := (rng 1 (max (gMax a) (gMax b) + 2 - 1).toNat).map fun d => .int (sgnI (colR (toI d) (runsL (tl a)) 0 + (tailL (tl a) : Nat)) (colR (toI d) (runsL (tl b)) 0 + (tailL (tl b) : Nat)))
end Pz
set_option maxRecDepth 100000
namespace Pz
open PySem PySem.Spec PyProof.Rows L2 TL
variable [PenC]
def trip (s : Nat) (e : PyData) (f : Nat → Int) : PyData := .tuple [.int (s : Nat), e, .int (f s)]
def zZ (f : Nat → Int) : List Nat → List PyData
  | [] => []
  | [s] => [trip s .none f]
  | s :: t :: r => trip s (.int ((t : Int) - 1)) f :: zZ f (t :: r)
def clo (k : Int) : List PyData → List PyData
  | [] => []
  | [.tuple [a, _, c]] => [.tuple [a, .int k, c]]
  | [d] => [d]
  | d :: r => d :: clo k r
def stA (f : Nat → Int) : Nat → List Nat
  | 0 => []
  | k + 1 => if k = 0 ∨ f k ≠ f (k + 1) then stA f k ++ [k + 1] else stA f k
def jA (f : Nat → Int) : Nat → List PyData
  | 0 => []
  | k + 1 => if k = 0 ∨ f k ≠ f (k + 1) then clo (k : Int) (jA f k) ++ [trip (k + 1) .none f] else jA f k
def stF (f : Nat → Int) (d : PyData) : Option PyData := match d with
  | .tuple [.int i, _] => if i.toNat = 0 ∨ f i.toNat ≠ f (i.toNat + 1) then some (.int (i + 1)) else none
  | _ => none
def ziF (f : Nat → Int) (d : PyData) : PyData := match d with
  | .tuple [.int s, e] => trip s.toNat e f
  | _ => .none
def sgnF (a b : Str) (w : Nat) : Int := sgnI (colR w (runsL (tl a)) 0 + (tailL (tl a) : Nat)) (colR w (runsL (tl b)) 0 + (tailL (tl b) : Nat))
end Pz
set_option maxRecDepth 100000
namespace Pz
open PySem PySem.Spec PyProof.Rows L2 TL
variable [PenC]
def trnD (d : PyData) : PyData := match d with
  | .tuple [a, b, .int c] => .tuple [a, b, .int (0 - c)]
  | _ => .none
theorem gMax_mem (z : Str) : (∀ x ∈ runsL (tl z), ((x : Nat) : Int) ≤ gMax z) ∧ ((tailL (tl z) : Nat) : Int) ≤ gMax z := by
  obtain ⟨h1, h2⟩ := lmax_mem (l := (runsL (tl z) ++ [tailL (tl z)]).map fun n : Nat => (n : Int)) (by simp)
  exact ⟨fun x m => h2 _ (List.mem_map_of_mem (List.mem_append_left _ m)), h2 _ (List.mem_map_of_mem (by simp))⟩
theorem gMax_le {z : Str} {B : Int} (h1 : ∀ x ∈ runsL (tl z), ((x : Nat) : Int) ≤ B) (h2 : ((tailL (tl z) : Nat) : Int) ≤ B) : gMax z ≤ B := by
  obtain ⟨k1, k2⟩ := lmax_mem (l := (runsL (tl z) ++ [tailL (tl z)]).map fun n : Nat => (n : Int)) (by simp)
  obtain ⟨n, mn, en⟩ := List.mem_map.mp k1
  unfold gMax
  rw [← en]
  rcases List.mem_append.mp mn with m | m
  · exact h1 n m
  · rw [List.mem_singleton.mp m]; exact h2
theorem sum_le_nat {B : Nat} : ∀ {l : List Nat}, (∀ x ∈ l, x ≤ B) → l.sum ≤ B * l.length
  | [], _ => by simp
  | x :: l, h => by
    have h1 := h x List.mem_cons_self
    have h2 := sum_le_nat (l := l) fun y m => h y (List.mem_cons_of_mem _ m)
    rw [List.sum_cons, List.length_cons, Nat.mul_add, Nat.mul_one]
    omega
theorem gMax_ind {fs : List Nat} {s : Nat} {B : Int} (h : ∀ x ∈ fs, ((x : Nat) : Int) ≤ B) (hs : (s : Int) ≤ B) : gMax (SX.S (indL fs s)) ≤ B := by
  apply gMax_le
  · rw [tl_S, runs_ind]; exact h
  · rw [tl_S, tail_ind]; exact hs
end Pz
set_option maxRecDepth 100000
namespace Pz
open PySem PySem.Spec PyProof.Rows L2 TL
variable [PenC]
def tri (a b : List Nat) (x : Int) : PyData := .tuple [.str (SX.S a), .str (SX.S b), .int x]
def unitL (m : Nat) : List Int := List.replicate (m - 1) 0 ++ [1]
def undD (ws : List PyData) (l : Int) (tf : Bool) : PyData :=
  if decD ws l tf = true then .none
  else if tf = true then (if inW ws 1 = true then tri (indL [0] 0) (indL [] l.toNat) (max 2 l) else tri (indL [0] 0) (indL [] 1) 1)
  else match missD ws l.toNat 1 with
    | .int m => tri (indL (apX (cA (unitL m.toNat)) m.toNat) 0) (indL (apY (cA (unitL m.toNat)) m.toNat) 0) m
    | _ => tri (indL [0] 0) (indL [l.toNat] 0) (l + 1)
def sgR (w : Nat) (ra : List Nat) (ta : Nat) (rb : List Nat) (tb : Nat) : Int := sgnI (colR (w : Nat) ra 0 + (ta : Nat)) (colR (w : Nat) rb 0 + (tb : Nat))
structure Und (ws : List PyData) (l : Int) (tf : Bool) (ra : List Nat) (ta : Nat) (rb : List Nat) (tb : Nat) (x : Nat) : Prop where
  a : ∀ r ∈ ra, ((r : Nat) : Int) ≤ l
  b : ∀ r ∈ rb, ((r : Nat) : Int) ≤ l
  la' : (ta : Int) ≤ l
  lb' : (tb : Int) ≤ l
  fr : tf = true → (∀ r ∈ ra, r = 0) ∧ ∀ r ∈ rb, r = 0
  x1 : 1 ≤ x
  x2 : x ≤ 1000
  la : ra.sum + ra.length + ta ≤ 900
  lb : rb.sum + rb.length + tb ≤ 900
  sg : ∃ s : Int, (∀ w : Nat, .int (w : Nat) ∈ ws → 1 ≤ w → sgR w ra ta rb tb = s) ∧ sgR x ra ta rb tb ≠ s
def okU (m : Nat) : Bool := decide (szZ (unitL m) ≤ 900)
end Pz
set_option maxRecDepth 100000
namespace Pz
open PySem PySem.Spec PyProof.Rows L2 TL
variable [PenC]
def rowF (w : Nat) (d : PyData) : Option PyData := match d with
  | .tuple [.int s, .none, z] => if s ≤ (w : Int) then some z else none
  | .tuple [.int s, .int t, z] => if s ≤ (w : Int) ∧ (w : Int) ≤ t then some z else none
  | _ => none
def sameB (a b : Str) (ws : List PyData) : Bool := ws.all fun d => decide (sgnF a b (toI d).toNat = sgnF a b (toI (ws.headD .none)).toNat)
def isInd (d : PyData) : Bool := match d with
  | .str z => decide (z.length ≤ 1000) && (tl z).all fun c => decide (c = 32) || decide (c = 9)
  | _ => false
def blC (c : Nat) : Bool := decide (c = 32) || decide (c = 9)
def sgnB (d : PyData) : Bool := match d with
  | .str z => (tl z).all blC
  | _ => false
theorem signs_n {z : Str} : (Pz.signs z).length = z.length := by
  rw [Pz.signs, List.length_map, Pz.len_tl]
theorem signs_mem {z : Str} {d : PyData} (m : d ∈ Pz.signs z) : ∃ c ∈ tl z, d = .str ⟨#[c]⟩ := by
  obtain ⟨c, mc, rfl⟩ := List.mem_map.mp m
  exact ⟨c, mc, rfl⟩
def tabF (z : Str) : Bool := decide ((runsL (tl z)).sum = 0)
def sof (d : PyData) : Str := match d with
  | .str z => z
  | _ => Str.ofString ""
def showC (ws : List PyData) (l : Int) (a b : Str) (w : Int) (tf : Bool) : Bool :=
  decide (max (gMax a) (gMax b) ≤ l) && (!tf || (tabF a && tabF b)) && sameB a b ws && !decide (sgnF a b w.toNat = sgnF a b (toI (ws.headD .none)).toNat)
def showB (ws : List PyData) (l : Int) (v : PyData) (tf : Bool) : Bool := match v with
  | .tuple [x, y, w] => isInd x && isInd y && intBetw w 1 1000000000 && showC ws l (sof x) (sof y) (toI w) tf
  | _ => false
def Sps (l : Nat) (ds : List PyData) : Prop := ∀ d ∈ ds, ∃ n, n ≤ l ∧ d = .str (spS n)
theorem Sps.nums {l : Nat} : ∀ {ds : List PyData}, Sps l ds → ∃ ns : List Nat, ds = ns.map (fun n => .str (spS n)) ∧ ∀ n ∈ ns, n ≤ l
  | [], _ => ⟨[], rfl, fun n m => by cases m⟩
  | d :: ds, h => by
    obtain ⟨n, hn, rfl⟩ := h d List.mem_cons_self
    obtain ⟨ns, rfl, hs⟩ := Sps.nums (ds := ds) fun d m => h d (List.mem_cons_of_mem _ m)
    exact ⟨n :: ns, rfl, fun k m => by rcases List.mem_cons.mp m with rfl | m; exact hn; exact hs k m⟩
theorem Sps.text {l : Nat} {ds : List PyData} (h : Sps l ds) (hl : 0 < ds.length) : ∃ (rs : List Nat) (t : Nat), asStrs ds = some (rs.map spS ++ [spS t]) ∧ (∀ r ∈ rs, r ≤ l) ∧ t ≤ l ∧ rs.length + 1 = ds.length := by
  obtain ⟨ns, rfl, hn⟩ := h.nums
  rw [List.length_map] at hl
  rcases List.eq_nil_or_concat ns with rfl | ⟨rs, t, rfl⟩
  · simp at hl
  · rw [List.concat_eq_append] at hn ⊢
    refine ⟨rs, t, ?_, fun r m => hn r (by simp [m]), hn t (by simp), by simp⟩
    rw [show (fun n => PyData.str (spS n)) = PyData.str ∘ spS from rfl, ← List.map_map, asStrs_map]
    simp
end Pz
namespace Pz
open PySem PySem.Spec PyProof.Rows L2 TL
variable [PenC]
def sameG (a b : Str) (ws : List PyData) (d : PyData) : Option PyData := if sgnF a b (toI d).toNat = sgnF a b (toI (ws.headD .none)).toNat then none else some (.int 1)
section
variable {ws : List PyData} {l : Int} {ra : List Nat} {ta : Nat} {rb : List Nat} {tb x : Nat}
end
end Pz
namespace Pz
open PySem PySem.Spec PyProof.Rows L2 TL
variable [PenC]
end Pz
namespace Pz
open PySem PySem.Spec PyProof.Rows L2 TL
variable [PenC]
end Pz
set_option maxRecDepth 100000
namespace Pz
open PySem PySem.Spec PyProof.Rows L2 TL
variable [PenC]
def rowsA : List Nat → List Nat → List (List Nat)
  | acc, [] => [acc]
  | acc, c :: l => if c = 10 then acc :: rowsA [] l else rowsA (acc ++ [c]) l
def rowsL (l : List Nat) : List (List Nat) := rowsA [] l
theorem rowsA_len : ∀ (l acc : List Nat), ((rowsA acc l).map List.length).sum + (rowsA acc l).length = acc.length + l.length + 1
  | [], acc => by simp [rowsA]
  | c :: l, acc => by
    rw [rowsA]
    split
    · have := rowsA_len l []
      simp only [List.map_cons, List.sum_cons, List.length_cons, List.length_nil] at this ⊢
      omega
    · have := rowsA_len l (acc ++ [c])
      simp only [List.length_append, List.length_cons, List.length_nil] at this ⊢
      omega
theorem rowsL_len (l : List Nat) : ((rowsL l).map List.length).sum + (rowsL l).length = l.length + 1 := by
  have := rowsA_len l []
  simpa [rowsL] using this
theorem rowsA_acc : ∀ (l acc : List Nat), rowsA acc l = match rowsA [] l with
    | x :: xs => (acc ++ x) :: xs
    | [] => []
  | [], acc => by simp [rowsA]
  | c :: l, acc => by
    rw [rowsA, rowsA]
    by_cases h : c = 10
    · rw [if_pos h, if_pos h]; simp
    · rw [if_neg h, if_neg h, rowsA_acc l (acc ++ [c]), rowsA_acc l ([] ++ [c])]
      cases rowsA [] l with
      | nil => rfl
      | cons x xs => simp
theorem rowsL_one : ∀ {x : List Nat}, 10 ∉ x → rowsL x = [x]
  | [], _ => rfl
  | c :: x, h => by
    have hc : c ≠ 10 := fun z => h (by rw [z]; exact List.mem_cons_self)
    have ih := rowsL_one (x := x) fun m => h (List.mem_cons_of_mem _ m)
    unfold rowsL at *
    rw [rowsA, if_neg hc, rowsA_acc, ih]
    rfl
theorem tw_mem {p : Nat → Bool} {c : Nat} : ∀ {l : List Nat}, c ∈ l.takeWhile p → p c = true
  | [], m => by cases m
  | a :: l, m => by
    rw [List.takeWhile_cons] at m
    cases h : p a with
    | true =>
      rw [h, if_pos rfl] at m
      rcases List.mem_cons.mp m with rfl | m
      · exact h
      · exact tw_mem m
    | false => rw [h] at m; cases m
def ldL (l : List Nat) : List Nat := l.takeWhile blC
def rsL (l : List Nat) : List Nat := l.dropWhile blC
theorem ld_rs (l : List Nat) : ldL l ++ rsL l = l := List.takeWhile_append_dropWhile ..
def stp (c : Nat) : Int := if c = 40 ∨ c = 91 ∨ c = 123 then 1 else if c = 41 ∨ c = 93 ∨ c = 125 then -1 else 0
def dpL : List Nat → Int → Option Int
  | [], d => some d
  | c :: l, d => if d + stp c < 0 then none else dpL l (d + stp c)
def cdL (l : List Nat) : List Nat := l.takeWhile fun c => decide (c ≠ 35)
def bgL : List Nat → Bool
  | [] => false
  | c :: _ => decide (c ≠ 35)
abbrev Ln := Nat × List Nat × List Nat
def addL (l : List Nat) : List Ln → List Ln
  | [] => []
  | [(n, i, b)] => [(n, i, b ++ 10 :: l)]
  | x :: y :: r => x :: addL l (y :: r)
def stepL (found : List Ln) (d : Int) (n : Nat) (l : List Nat) : List Ln :=
  if 0 < d then addL l found else if bgL (rsL l) = true then found ++ [(n, ldL l, rsL l)] else found
def goL : List Ln → Int → Nat → List (List Nat) → Sum (List Ln × Int) Nat
  | found, d, _, [] => .inl (found, d)
  | found, d, n, l :: r => match dpL (cdL l) d with
    | none => .inr n
    | some d' => goL (stepL found d n l) d' (n + 1) r
inductive LR where
  | ok (ls : List Ln)
  | err (c : Str) (fs : List (Str × PyData))
def logL (l : List Nat) : LR :=
  if ((rowsL l).all fun r => decide ((ldL r).length ≤ 1000)) = true then
    match goL [] 0 0 (rowsL l) with
    | .inr n => .err "UnbalancedBracket" [("number", .int (n : Nat))]
    | .inl (found, d) => if 0 < d then .err "UnbalancedBracket" [("number", .int (((rowsL l).length : Int) - 1))]
      else if 20 < found.length then .err "TooMany" [("count", .int (found.length : Nat))] else .ok found
  else .err "InvalidText" []
def lnS (l : List Nat) : List Ln := match logL l with
  | .ok ls => ls
  | _ => []
def okTx (l : List Nat) : Prop := ∃ ls, logL l = .ok ls
def lnD (l : Ln) : PyData := .tuple [.int (l.1 : Nat), .str (SX.S l.2.1), .str (SX.S l.2.2)]
theorem cd_blank {l : List Nat} (h : bgL (rsL l) = false) : dpL (cdL l) 0 = some 0 := by
  have e : ∀ x : List Nat, (∀ c ∈ x, blC c = true) → dpL x 0 = some 0 := by
    intro x
    induction x with
    | nil => intro _; rfl
    | cons c x ih =>
      intro hx
      have hc := hx c List.mem_cons_self
      have hs : stp c = 0 := by
        unfold blC at hc
        rcases (by simpa using hc : c = 32 ∨ c = 9) with rfl | rfl <;> rfl
      rw [dpL, hs, if_neg (by decide)]
      exact ih fun y m => hx y (List.mem_cons_of_mem _ m)
  refine e _ ?_
  have hl := ld_rs l
  unfold cdL
  rw [← hl]
  cases hr : rsL l with
  | nil =>
    rw [List.append_nil]
    intro c m
    have m2 := (List.takeWhile_subset _ m : c ∈ ldL l)
    exact tw_mem m2
  | cons a r =>
    rw [hr] at h
    have ha : a = 35 := by simpa [bgL] using h
    have hb : ∀ c ∈ ldL l, blC c = true := fun c m => tw_mem m
    intro c m
    have : ∀ x : List Nat, (∀ c ∈ x, blC c = true) → (x ++ a :: r).takeWhile (fun c => decide (c ≠ 35)) = x := by
      intro x
      induction x with
      | nil => intro _; rw [List.nil_append, List.takeWhile_cons, ha]; rfl
      | cons y x ih =>
        intro hx
        have hy := hx y List.mem_cons_self
        have hy2 : decide (y ≠ 35) = true := by
          unfold blC at hy
          rcases (by simpa using hy : y = 32 ∨ y = 9) with rfl | rfl <;> rfl
        rw [List.cons_append, List.takeWhile_cons, if_pos hy2, ih fun z m => hx z (List.mem_cons_of_mem _ m)]
    rw [this _ hb] at m
    exact hb c m
theorem addL_snoc {l : List Nat} {n : Nat} {i b : List Nat} : ∀ f : List Ln, addL l (f ++ [(n, i, b)]) = f ++ [(n, i, b ++ 10 :: l)]
  | [] => rfl
  | [x] => rfl
  | x :: y :: r => by
    have := addL_snoc (l := l) (n := n) (i := i) (b := b) (y :: r)
    rw [List.cons_append, List.cons_append, addL, ← List.cons_append, this]
    rfl
def phD : PyData → Option (List PyData)
  | .str z => if ((rowsL (tl z)).all fun r => decide ((ldL r).length ≤ 1000)) = true then some ((rowsL (tl z)).map fun r => .str (SX.S r)) else none
  | _ => none
def lgD : PyData → LR
  | .str z => logL (tl z)
  | _ => .err "InvalidText" []
end Pz
set_option maxRecDepth 100000
namespace Pz
open PySem PySem.Spec PyProof.Rows L2 TL
variable [PenC]
abbrev tpI (l : List Int) : PyData := .tuple (l.map .int)
def trT (s : Nat) (e : PyData) (f : Nat → List Int) : PyData := .tuple [.int (s : Nat), e, tpI (f s)]
def zT (f : Nat → List Int) : List Nat → List PyData
  | [] => []
  | [s] => [trT s .none f]
  | s :: t :: r => trT s (.int ((t : Int) - 1)) f :: zT f (t :: r)
def stT (f : Nat → List Int) : Nat → List Nat
  | 0 => []
  | k + 1 => if k = 0 ∨ f k ≠ f (k + 1) then stT f k ++ [k + 1] else stT f k
def jT (f : Nat → List Int) (n : Nat) : List PyData := zT f (stT f n)
def sfT (f : Nat → List Int) (d : PyData) : Option PyData := match d with
  | .tuple [.int i, _] => if i.toNat = 0 ∨ f i.toNat ≠ f (i.toNat + 1) then some (.int (i + 1)) else none
  | _ => none
def ziT (f : Nat → List Int) (d : PyData) : PyData := match d with
  | .tuple [.int s, e] => trT s.toNat e f
  | _ => .none
def swT (d : PyData) : PyData := match d with
  | .tuple [.tuple [b, v], e] => .tuple [b, e, v]
  | d => d
def toZ : PyData → Str
  | .str z => z
  | _ => ⟨#[]⟩
def lastI (s : List Int) : Int := s.getLastD 0
theorem lastI_snoc {s : List Int} {c : Int} : lastI (s ++ [c]) = c := by simp [lastI]
def nxS (s f : List Int) (c : Int) : List Int := if lastI s < c ∧ f ≠ [] then s ++ [c] else s.filter fun x => decide (x ≤ c)
def lvG : List Int → List Int → List Int → List Int
  | _, f, [] => f
  | s, f, c :: r => if lastI (nxS s f c) = c then lvG (nxS s f c) (f ++ [((nxS s f c).length : Int) - 1]) r else f
def lvF (cs : List Int) : List Int := lvG [0] [] cs
def Asc (s : List Int) : Prop := s.Pairwise (· < ·) ∧ ∃ r, s = 0 :: r
theorem Asc.ne {s : List Int} (h : Asc s) : s ≠ [] := by obtain ⟨_, r, rfl⟩ := h; exact nofun
theorem Asc.fil {s : List Int} (h : Asc s) {c : Int} (hc : 0 ≤ c) : Asc (s.filter fun x => decide (x ≤ c)) := by
  obtain ⟨h1, r, rfl⟩ := h
  refine ⟨h1.filter _, r.filter fun x => decide (x ≤ c), ?_⟩
  rw [List.filter_cons_of_pos (by simpa using hc)]
theorem Asc.le_last {s : List Int} (h : Asc s) : ∀ x ∈ s, x ≤ lastI s := by
  obtain ⟨a, y, rfl⟩ : ∃ a x, s = a ++ [x] := ⟨_, _, (List.dropLast_concat_getLast h.ne).symm⟩
  rw [lastI_snoc]
  intro x m
  rcases List.mem_append.mp m with m | m
  · have := (List.pairwise_append.mp h.1).2.2 x m y (by simp); omega
  · rw [List.mem_singleton.mp m]; omega
theorem Asc.snoc {s : List Int} (h : Asc s) {c : Int} (hc : lastI s < c) : Asc (s ++ [c]) := by
  refine ⟨List.pairwise_append.mpr ⟨h.1, List.pairwise_singleton _ _, fun x m y my => ?_⟩, ?_⟩
  · rw [List.mem_singleton.mp my]; have := h.le_last x m; omega
  · obtain ⟨_, r, rfl⟩ := h; exact ⟨r ++ [c], rfl⟩
theorem Asc.nx {s f : List Int} (h : Asc s) {c : Int} (hc : 0 ≤ c) : Asc (nxS s f c) := by
  unfold nxS
  split
  · next q => exact h.snoc q.1
  · exact h.fil hc
theorem nxS_len {s f : List Int} {c : Int} : (nxS s f c).length ≤ s.length + 1 := by
  unfold nxS
  split
  · simp
  · have := List.length_filter_le (fun x => decide (x ≤ c)) s; omega
theorem Asc.len {s : List Int} (h : Asc s) : 0 < s.length := List.length_pos_iff.mpr h.ne
theorem asc0 : Asc [0] := ⟨List.pairwise_singleton _ _, [], rfl⟩
theorem lvG_bd {B : Int} : ∀ (cs s f : List Int), Asc s → (∀ c ∈ cs, 0 ≤ c) → (∀ x ∈ f, 0 ≤ x ∧ x ≤ B) → (s.length : Int) + cs.length ≤ B + 1 → (∀ x ∈ lvG s f cs, 0 ≤ x ∧ x ≤ B) ∧ (lvG s f cs).length ≤ f.length + cs.length
  | [], s, f, h, hc, hf, hB => ⟨hf, Nat.le_add_right _ _⟩
  | c :: r, s, f, h, hc, hf, hB => by
    rw [lvG]
    have hc0 := hc c List.mem_cons_self
    have h2 := h.nx (f := f) hc0
    have h3 := nxS_len (s := s) (f := f) (c := c)
    have h4 := h2.len
    rw [List.length_cons] at hB
    split
    · obtain ⟨g1, g2⟩ := lvG_bd (B := B) r (nxS s f c) (f ++ [((nxS s f c).length : Int) - 1]) h2 (fun x m => hc x (List.mem_cons_of_mem _ m)) (fun x m => by
        rcases List.mem_append.mp m with m | m
        · exact hf x m
        · rw [List.mem_singleton.mp m]; omega) (by omega)
      refine ⟨g1, ?_⟩
      rw [List.length_append, List.length_singleton] at g2
      rw [List.length_cons]; omega
    · exact ⟨hf, by omega⟩
theorem lvF_bd {cs : List Int} (hc : ∀ c ∈ cs, 0 ≤ c) : (∀ x ∈ lvF cs, 0 ≤ x ∧ x ≤ cs.length) ∧ (lvF cs).length ≤ cs.length := by
  have := lvG_bd (B := cs.length) cs [0] [] asc0 hc (fun x m => by cases m) (by simp; omega)
  rw [List.length_nil, Nat.zero_add] at this
  exact this
def afS (s : List Int) (c : Int) : PyData := if lastI s < c then .list ((s ++ [c]).map .int) else if lastI (s.filter fun x => decide (x ≤ c)) = c then .list ((s.filter fun x => decide (x ≤ c)).map .int) else .none
def lvE (zs : List Str) (w : Nat) : List Int := lvF (zs.map (colZ (w : Int)))
def vwD (zs : List Str) : List PyData := jT (lvE zs) (lonG (zs.map .str) + 1).toNat
def GoodL (m : Int) (z : Str) : Prop := blankL (tl z) ∧ gMax z ≤ m ∧ (runsL (tl z)).length ≤ 8
theorem GoodL.len {m : Int} {z : Str} (h : GoodL m z) (h0 : 0 ≤ m) : (z.length : Int) ≤ 9 * m + 8 := by
  obtain ⟨h1, h2, h3⟩ := h
  obtain ⟨g1, g2⟩ := gMax_mem z
  have hr := rt_len (tl z)
  rw [← Pz.len_tl] at hr
  have hs := sum_le_nat (B := m.toNat) (l := runsL (tl z)) (fun x mx => by have := g1 x mx; omega)
  have hm : m.toNat * (runsL (tl z)).length ≤ m.toNat * 8 := Nat.mul_le_mul_left _ h3
  omega
end Pz
set_option maxRecDepth 100000
namespace Pz
open PySem PySem.Spec PyProof.Rows L2 TL
variable [PenC]
theorem rowsA_app : ∀ (x acc y : List Nat), rowsA acc (x ++ 10 :: y) = rowsA acc x ++ rowsA [] y
  | [], acc, y => by
    rw [List.nil_append, rowsA, rowsA, if_pos rfl]; rfl
  | c :: x, acc, y => by
    rw [List.cons_append, rowsA, rowsA]
    by_cases h : c = 10
    · rw [if_pos h, if_pos h, rowsA_app x [] y]; rfl
    · rw [if_neg h, if_neg h, rowsA_app x _ y]
theorem rowsL_app (x y : List Nat) : rowsL (x ++ 10 :: y) = rowsL x ++ rowsL y := rowsA_app x [] y
theorem rowsL_pre {l : List Nat} (h : 10 ∉ l) (w : List Nat) : rowsL (l ++ w) = match rowsL w with
    | x :: xs => (l ++ x) :: xs
    | [] => [] := by
  have main : ∀ (l acc : List Nat), 10 ∉ l → rowsA acc (l ++ w) = rowsA (acc ++ l) w := by
    intro l
    induction l with
    | nil => intro acc _; rw [List.nil_append, List.append_nil]
    | cons c l ih =>
      intro acc h
      have hc : c ≠ 10 := fun z => h (by rw [z]; exact List.mem_cons_self)
      rw [List.cons_append, rowsA, if_neg hc, ih _ fun m => h (List.mem_cons_of_mem _ m)]
      simp
  unfold rowsL
  rw [main l [] h, List.nil_append, rowsA_acc]
  all_goals (cases rowsA [] w <;> rfl)
theorem rows_join : ∀ {ps : List (List Nat)}, ps ≠ [] → rowsL (TL.joinL [10] ps) = ps.flatMap rowsL
  | [], h => absurd rfl h
  | [p], _ => by simp [TL.joinL]
  | p :: q :: r, _ => by
    have ih := rows_join (ps := q :: r) nofun
    rw [List.flatMap_cons, ← ih, ← rowsL_app]
    rfl
def Pc (p : List Nat) (e : List (List Nat × List Nat)) : Prop := (∀ r ∈ rowsL p, (ldL r).length ≤ 1000) ∧
  ∀ f n rest, goL f 0 n (rowsL p ++ rest) = goL (f ++ e.map fun x => (n, x.1, x.2)) 0 (n + (rowsL p).length) rest
abbrev Pcs := List Nat × List (List Nat × List Nat)
def pgE : Nat → List Pcs → List Ln
  | _, [] => []
  | n, (p, e) :: ps => (e.map fun x => (n, x.1, x.2)) ++ pgE (n + (rowsL p).length) ps
theorem page_go : ∀ (ps : List Pcs) (f : List Ln) (n : Nat), (∀ x ∈ ps, Pc x.1 x.2) → goL f 0 n (ps.flatMap fun x => rowsL x.1) = .inl (f ++ pgE n ps, 0)
  | [], f, n, _ => by rw [List.flatMap_nil, goL, pgE, List.append_nil]
  | (p, e) :: ps, f, n, h => by
    have h1 : Pc p e := h (p, e) List.mem_cons_self
    rw [List.flatMap_cons, h1.2, page_go ps _ _ (fun x m => h x (List.mem_cons_of_mem _ m)), pgE, List.append_assoc]
theorem pgE_snd : ∀ (ps : List Pcs) (n : Nat), (pgE n ps).map (fun x => x.2) = ps.flatMap fun x => x.2
  | [], _ => rfl
  | (p, e) :: ps, n => by
    rw [pgE, List.map_append, pgE_snd ps, List.flatMap_cons, List.map_map]
    congr 1
    exact List.map_id'' (fun _ => rfl) _
theorem page_ok {ps : List Pcs} (h : ∀ x ∈ ps, Pc x.1 x.2) (hc : (ps.flatMap fun x => x.2).length ≤ 20) : logL (TL.joinL [10] (ps.map fun x => x.1)) = .ok (pgE 0 ps) := by
  by_cases hn : ps = []
  · subst hn; rfl
  · have hr : rowsL (TL.joinL [10] (ps.map fun x => x.1)) = ps.flatMap fun x => rowsL x.1 := by
      rw [rows_join (by simpa using hn), List.flatMap_map]
    have hl : (pgE 0 ps).length ≤ 20 := by
      have := congrArg List.length (pgE_snd ps 0)
      rw [List.length_map] at this
      omega
    unfold logL
    rw [hr, if_pos, page_go ps [] 0 h, List.nil_append]
    · dsimp only
      rw [if_neg (by decide), if_neg (by omega)]
    · refine List.all_eq_true.mpr fun r m => ?_
      obtain ⟨x, mx, mr⟩ := List.mem_flatMap.mp m
      exact decide_eq_true ((h x mx).1 r mr)
theorem page_lns {ps : List Pcs} (h : ∀ x ∈ ps, Pc x.1 x.2) (hc : (ps.flatMap fun x => x.2).length ≤ 20) : okTx (TL.joinL [10] (ps.map fun x => x.1)) ∧ lnS (TL.joinL [10] (ps.map fun x => x.1)) = pgE 0 ps := by
  have := page_ok h hc
  exact ⟨⟨_, this⟩, by unfold lnS; rw [this]⟩
theorem pc_fill {p : List Nat} (h : 10 ∉ p) (hb : bgL (rsL p) = false) (hl : (ldL p).length ≤ 1000) : Pc p [] := by
  refine ⟨fun r m => ?_, fun f n rest => ?_⟩
  · rw [rowsL_one h, List.mem_singleton] at m
    rw [m]; exact hl
  · rw [rowsL_one h, List.singleton_append, goL, cd_blank hb]
    dsimp only
    unfold stepL
    rw [if_neg (by decide), hb, if_neg (by decide), List.map_nil, List.append_nil]
    rfl
def runW : List Nat → Int → List (List Nat) → Option (List Nat)
  | b, d, [] => if d = 0 then some b else none
  | b, d, r :: rs => if 0 < d then match dpL (cdL r) d with
      | some d' => runW (b ++ 10 :: r) d' rs
      | none => none
    else none
theorem runW_go {l : List Nat} {k : Nat} {b2 : List Nat} {f : List Ln} {rest : List (List Nat)} : ∀ (ws : List (List Nat)) (b : List Nat) (d : Int) (n : Nat), runW b d ws = some b2 →
    goL (f ++ [(k, l, b)]) d n (ws ++ rest) = goL (f ++ [(k, l, b2)]) 0 (n + ws.length) rest
  | [], b, d, n, h => by
    rw [runW] at h
    by_cases hd : d = 0
    · rw [if_pos hd] at h
      cases h
      rw [hd]; rfl
    · rw [if_neg hd] at h; cases h
  | r :: ws, b, d, n, h => by
    rw [runW] at h
    by_cases hd : 0 < d
    · rw [if_pos hd] at h
      rw [List.cons_append, goL]
      cases e : dpL (cdL r) d with
      | none => rw [e] at h; cases h
      | some d' =>
        rw [e] at h
        dsimp only at h ⊢
        unfold stepL
        rw [if_pos hd, addL_snoc, runW_go ws _ _ _ h, List.length_cons, show n + 1 + ws.length = n + (ws.length + 1) by omega]
    · rw [if_neg hd] at h; cases h
def nameB (w : List Nat) : Bool := match rowsL w with
  | [] => false
  | w0 :: ws => (match w0 with
      | [] => false
      | c :: _ => !blC c && decide (c ≠ 35)) && ws.all (fun r => decide ((ldL r).length ≤ 1000)) && match dpL (cdL w0) 0 with
        | some d => decide (runW w0 d ws = some w)
        | none => false
theorem blank10 {l : List Nat} (h : blankL l) : 10 ∉ l := fun m => by rcases h 10 m with h | h <;> cases h
theorem blC_of {c : Nat} (h : c = 32 ∨ c = 9) : blC c = true := by rcases h with rfl | rfl <;> rfl
theorem blank_dp {l : List Nat} (h : blankL l) (x : List Nat) : dpL (cdL (l ++ x)) 0 = dpL (cdL x) 0 := by
  induction l with
  | nil => rfl
  | cons c l ih =>
    have hc := h c List.mem_cons_self
    have hs : stp c = 0 := by rcases hc with rfl | rfl <;> rfl
    have h35 : decide (c ≠ 35) = true := by rcases hc with rfl | rfl <;> rfl
    rw [List.cons_append, show cdL (c :: (l ++ x)) = c :: cdL (l ++ x) by unfold cdL; rw [List.takeWhile_cons, if_pos h35], dpL, hs, if_neg (by decide)]
    exact ih fun y m => h y (List.mem_cons_of_mem _ m)
theorem ld_app {l : List Nat} (h : blankL l) {c : Nat} {w : List Nat} (hc : blC c = false) : ldL (l ++ c :: w) = l ∧ rsL (l ++ c :: w) = c :: w := by
  induction l with
  | nil => exact ⟨by rw [List.nil_append, ldL, List.takeWhile_cons, hc]; rfl, by rw [List.nil_append, rsL, List.dropWhile_cons, hc]; rfl⟩
  | cons a l ih =>
    have ha := blC_of (h a List.mem_cons_self)
    obtain ⟨i1, i2⟩ := ih fun y m => h y (List.mem_cons_of_mem _ m)
    unfold ldL rsL at *
    exact ⟨by rw [List.cons_append, List.takeWhile_cons, if_pos ha, i1], by rw [List.cons_append, List.dropWhile_cons, if_pos ha, i2]⟩
theorem pc_name {l w : List Nat} (hb : blankL l) (hl : l.length ≤ 1000) (hw : nameB w = true) : Pc (l ++ w) [(l, w)] := by
  unfold nameB at hw
  unfold Pc
  rw [rowsL_pre (blank10 hb)]
  cases e : rowsL w with
  | nil => rw [e] at hw; cases hw
  | cons w0 ws =>
    rw [e] at hw
    dsimp only at hw ⊢
    cases w0 with
    | nil => simp at hw
    | cons c w0 =>
      rw [Bool.and_eq_true, Bool.and_eq_true] at hw
      obtain ⟨⟨h1, h2⟩, h3⟩ := hw
      dsimp only at h1
      rw [Bool.and_eq_true] at h1
      obtain ⟨hc, h35⟩ := h1
      have hc2 : blC c = false := by simpa using hc
      obtain ⟨g1, g2⟩ := ld_app (l := l) hb (c := c) (w := w0) hc2
      refine ⟨fun r m => ?_, fun f n rest => ?_⟩
      · rcases List.mem_cons.mp m with rfl | m
        · rw [g1]; exact hl
        · exact of_decide_eq_true (List.all_eq_true.mp h2 r m)
      · rw [List.cons_append, goL, blank_dp hb]
        cases ed : dpL (cdL (c :: w0)) 0 with
        | none => rw [ed] at h3; cases h3
        | some d =>
          rw [ed] at h3
          dsimp only at h3 ⊢
          unfold stepL
          rw [if_neg (by decide), g1, g2, if_pos (show bgL (c :: w0) = true from h35), runW_go ws _ _ _ (of_decide_eq_true h3), List.length_cons, show n + 1 + ws.length = n + (ws.length + 1) by omega]
          rfl
def inS (l : List Nat) : List Str := (lnS l).map fun x => SX.S x.2.1
theorem page_ins {ps : List Pcs} (h : ∀ x ∈ ps, Pc x.1 x.2) (hc : (ps.flatMap fun x => x.2).length ≤ 20) : inS (TL.joinL [10] (ps.map fun x => x.1)) = (ps.flatMap fun x => x.2).map fun x => SX.S x.1 := by
  unfold inS
  rw [(page_lns h hc).2, ← pgE_snd ps 0, List.map_map]
  rfl
def FillOk (p : List Nat) : Prop := (p.all fun c => decide (c ≠ 10)) = true ∧ bgL (rsL p) = false ∧ p.length ≤ 100 ∧ (p.all fun c => decide (c < 0x110000)) = true
instance (w : List Nat) : Decidable (FillOk w) := inferInstanceAs (Decidable (_ ∧ _ ∧ _ ∧ _))
theorem FillOk.pc {p : List Nat} (h : FillOk p) : Pc p [] ∧ p.length ≤ 1100 ∧ ∀ c ∈ p, c < 0x110000 := by
  obtain ⟨h1, h2, h3, h4⟩ := h
  have hl : (ldL p).length ≤ p.length := (List.takeWhile_sublist _).length_le
  exact ⟨pc_fill (fun m => by have := of_decide_eq_true (List.all_eq_true.mp h1 10 m); exact this rfl) h2 (by omega), by omega, fun c m => of_decide_eq_true (List.all_eq_true.mp h4 c m)⟩
def FillD (d : PyData) : Prop := ∃ fs : List (List Nat), d = .list (fs.map fun p => .str (SX.S p)) ∧ (∀ p ∈ fs, FillOk p) ∧ fs.length ≤ 2
def NameOk (w : List Nat) : Prop := nameB w = true ∧ w.length ≤ 90 ∧ (w.all fun c => decide (c < 0x110000)) = true
instance (w : List Nat) : Decidable (NameOk w) := inferInstanceAs (Decidable (_ ∧ _ ∧ _))
theorem joinL_len : ∀ (ps : List (List Nat)), (TL.joinL [10] ps).length ≤ (ps.map List.length).sum + ps.length
  | [] => by simp [TL.joinL]
  | [p] => by simp [TL.joinL]
  | p :: q :: r => by
    have := joinL_len (q :: r)
    simp only [TL.joinL, List.length_append, List.length_cons, List.length_nil, List.map_cons, List.sum_cons] at this ⊢
    omega
theorem strOk_page {ps : List (List Nat)} (h : ∀ p ∈ ps, ∀ c ∈ p, c < 0x110000) : PyData.strOk (SX.S (TL.joinL [10] ps)) = true :=
  strOk_iff.mpr fun c m => strOk_joinL (a := [10]) (fun c m => by rw [List.mem_singleton.mp m]; decide) h c m
theorem page_all {ps : List Pcs} {zs : List Str} (h : ∀ x ∈ ps, Pc x.1 x.2) (he : (ps.flatMap fun x => x.2).map (fun x => SX.S x.1) = zs) (hl : ps.length ≤ 100) (hb : ∀ x ∈ ps, x.1.length ≤ 1100 ∧ ∀ c ∈ x.1, c < 0x110000) (hz : zs.length ≤ 20) :
    (SX.S (TL.joinL [10] (ps.map fun x => x.1))).length ≤ 200000 ∧ PyData.strOk (SX.S (TL.joinL [10] (ps.map fun x => x.1))) = true ∧ okTx (TL.joinL [10] (ps.map fun x => x.1)) ∧ inS (TL.joinL [10] (ps.map fun x => x.1)) = zs := by
  have hc : (ps.flatMap fun x => x.2).length ≤ 20 := by
    have := congrArg List.length he
    rw [List.length_map] at this; omega
  refine ⟨?_, strOk_page (fun p mp => ?_), (page_lns h hc).1, by rw [page_ins h hc, he]⟩
  · rw [SX.S_len]
    have h1 := joinL_len (ps.map fun x => x.1)
    have h2 := sum_le_nat (B := 1100) (l := (ps.map fun x => x.1).map List.length) (fun y my => by
      obtain ⟨a, ma, rfl⟩ := List.mem_map.mp my
      obtain ⟨x, mx, rfl⟩ := List.mem_map.mp ma
      exact (hb x mx).1)
    simp only [List.length_map] at h1 h2
    have h3 := Nat.mul_le_mul_left 1100 hl
    omega
  · obtain ⟨x, mx, rfl⟩ := List.mem_map.mp mp
    exact (hb x mx).2
end Pz
set_option maxRecDepth 100000
namespace Pz
open PySem PySem.Spec PyProof.Rows L2 TL
variable [PenC]
def spL : List Int → List Int → Nat
  | x :: a, y :: b => if x = y then spL a b + 1 else 0
  | _, _ => 0
def unL (a b : List Int) : List Int := ((List.range (min a.length b.length)).filter fun i => decide (a.getD i 0 ≠ b.getD i 0)).map fun i : Nat => (i : Int)
def vwN (zs : List Str) : Nat := (lonG (zs.map .str) + 1).toNat
def st2 (zs : List Str) : Nat := (stT (lvE zs) (vwN zs)).getD 1 0
def poD (zs : List Str) : Bool := decide ((vwD zs).length = 1) && decide ((lvE zs 1).length = zs.length)
def splD (zs : List Str) : PyData := if (vwD zs).length = 1 then .none else .tuple [.int (st2 zs : Nat), .int (spL (lvE zs 1) (lvE zs (st2 zs)) : Nat)]
end Pz
set_option maxRecDepth 100000
namespace Pz
open PySem PySem.Spec PyProof.Rows L2 TL
variable [PenC]
theorem rowsA_ne : ∀ (l acc : List Nat), rowsA acc l ≠ []
  | [], acc => by simp [rowsA]
  | c :: l, acc => by
    rw [rowsA]
    split
    · exact nofun
    · exact rowsA_ne l _
theorem joinL_cons {p : List Nat} {r : List (List Nat)} (h : r ≠ []) : TL.joinL [10] (p :: r) = p ++ 10 :: TL.joinL [10] r := by
  cases r with
  | nil => exact absurd rfl h
  | cons q r => simp [TL.joinL]
theorem joinL_rowsA : ∀ (l acc : List Nat), TL.joinL [10] (rowsA acc l) = acc ++ l
  | [], acc => by simp [rowsA, TL.joinL]
  | c :: l, acc => by
    rw [rowsA]
    by_cases h : c = 10
    · rw [if_pos h, joinL_cons (rowsA_ne l []), joinL_rowsA l [], h, List.nil_append]
    · rw [if_neg h, joinL_rowsA l _]; simp
theorem joinL_rows (l : List Nat) : TL.joinL [10] (rowsL l) = l := by
  unfold rowsL
  rw [joinL_rowsA]; rfl
def replL : List (List Nat) → List Ln → List (List Nat) → List (List Nat)
  | rows, (n, i, _) :: ls, o :: os => replL (rows.set n (o ++ (rows.getD n []).drop i.length)) ls os
  | rows, _, _ => rows
def PcW (x : Pcs) : Prop := Pc x.1 x.2 ∧ (x.2 = [] ∨ ∃ l w, x.2 = [(l, w)] ∧ x.1 = l ++ w ∧ blankL l ∧ l.length ≤ 1000 ∧ NameOk w)
def subP : List Pcs → List (List Nat) → List Pcs
  | (p, []) :: ps, os => (p, []) :: subP ps os
  | (p, (_, w) :: e) :: ps, o :: os => (o ++ w, [(o, w)]) :: subP ps os
  | ps, _ => ps
theorem repl_sub : ∀ (ps : List Pcs) (P : List (List Nat)) (os : List (List Nat)), (∀ x ∈ ps, PcW x) → (ps.flatMap fun x => x.2).length = os.length → (∀ o ∈ os, blankL o ∧ o.length ≤ 1000) →
    replL (P ++ ps.flatMap fun x => rowsL x.1) (pgE P.length ps) os = P ++ (subP ps os).flatMap fun x => rowsL x.1
  | [], P, os, _, h, _ => by
    have : os = [] := List.length_eq_zero_iff.mp (by simpa using h.symm)
    subst this
    simp [pgE, replL, subP]
  | (p, e) :: ps, P, os, hw, h, ho => by
    have hw2 : ∀ x ∈ ps, PcW x := fun x m => hw x (List.mem_cons_of_mem _ m)
    have h1 := hw (p, e) List.mem_cons_self
    rcases h1.2 with he | ⟨l, w, he, hp, hl, hl2, hn⟩
    · dsimp only at he
      subst he
      rw [pgE, List.map_nil, List.nil_append, subP, List.flatMap_cons, List.flatMap_cons, ← List.append_assoc, ← List.append_assoc]
      have := repl_sub ps (P ++ rowsL p) os hw2 (by simpa using h) ho
      rw [List.length_append] at this
      exact this
    · dsimp only at he hp
      subst he
      subst hp
      cases os with
      | nil => simp at h
      | cons o os =>
        have hob := ho o List.mem_cons_self
        rw [pgE, List.map_cons, List.map_nil, List.singleton_append, replL, subP, List.flatMap_cons, List.flatMap_cons]
        have er := rowsL_pre (blank10 hl) w
        have eo := rowsL_pre (blank10 hob.1) w
        cases ew : rowsL w with
        | nil => exact absurd ew (rowsA_ne _ _)
        | cons w0 ws =>
          rw [ew] at er eo
          dsimp only at er eo
          dsimp only
          rw [er, eo]
          have hg : (P ++ ((l ++ w0) :: ws ++ ps.flatMap fun x => rowsL x.1)).getD P.length [] = l ++ w0 := by
            rw [List.getD_eq_getElem?_getD, List.getElem?_append_right (Nat.le_refl _), Nat.sub_self]; rfl
          rw [hg, List.drop_left, List.set_append_right _ _ (Nat.le_refl _), Nat.sub_self, List.cons_append, List.set_cons_zero]
          have := repl_sub ps (P ++ ((o ++ w0) :: ws)) os hw2 (by simpa using h) (fun x m => ho x (List.mem_cons_of_mem _ m))
          rw [List.length_append] at this
          rw [show P.length + ((l ++ w0) :: ws).length = P.length + ((o ++ w0) :: ws).length by simp]
          rw [List.append_assoc, List.cons_append] at this
          rw [this, List.append_assoc]
theorem subP_ok : ∀ (ps : List Pcs) (os : List (List Nat)), (∀ x ∈ ps, PcW x) → (ps.flatMap fun x => x.2).length = os.length → (∀ o ∈ os, blankL o ∧ o.length ≤ 1000) →
    (∀ x ∈ subP ps os, PcW x) ∧ ((subP ps os).flatMap fun x => x.2).map (fun x => x.1) = os ∧ (subP ps os).length = ps.length ∧ ((subP ps os).flatMap fun x => x.2).map (fun x => x.2) = (ps.flatMap fun x => x.2).map fun x => x.2
  | [], os, _, h, _ => by
    have : os = [] := List.length_eq_zero_iff.mp (by simpa using h.symm)
    subst this
    exact ⟨(fun x m => by cases m), rfl, rfl, rfl⟩
  | (p, e) :: ps, os, hw, h, ho => by
    have hw2 : ∀ x ∈ ps, PcW x := fun x m => hw x (List.mem_cons_of_mem _ m)
    have h1 := hw (p, e) List.mem_cons_self
    rcases h1.2 with he | ⟨l, w, he, hp, hl, hl2, hn⟩
    · dsimp only at he
      subst he
      obtain ⟨g1, g2, g3, g4⟩ := subP_ok ps os hw2 (by simpa using h) ho
      rw [subP]
      refine ⟨fun x m => ?_, by simpa using g2, by simpa using g3, by simpa using g4⟩
      rcases List.mem_cons.mp m with rfl | m
      · exact h1
      · exact g1 x m
    · dsimp only at he hp
      subst he
      subst hp
      cases os with
      | nil => simp at h
      | cons o os =>
        have hob := ho o List.mem_cons_self
        obtain ⟨g1, g2, g3, g4⟩ := subP_ok ps os hw2 (by simpa using h) (fun x m => ho x (List.mem_cons_of_mem _ m))
        rw [subP]
        refine ⟨fun x m => ?_, by simpa using g2, by simpa using g3, by simpa using g4⟩
        rcases List.mem_cons.mp m with rfl | m
        · exact ⟨pc_name hob.1 hob.2 hn.1, .inr ⟨o, w, rfl, rfl, hob.1, hob.2, hn⟩⟩
        · exact g1 x m
theorem page_repl {ps : List Pcs} {os : List (List Nat)} (hw : ∀ x ∈ ps, PcW x) (h : (ps.flatMap fun x => x.2).length = os.length) (hc : os.length ≤ 20) (ho : ∀ o ∈ os, blankL o ∧ o.length ≤ 1000) :
    TL.joinL [10] (replL (rowsL (TL.joinL [10] (ps.map fun x => x.1))) (lnS (TL.joinL [10] (ps.map fun x => x.1))) os) = TL.joinL [10] ((subP ps os).map fun x => x.1) := by
  have h1 := page_lns (ps := ps) (fun x m => (hw x m).1) (by omega)
  rw [h1.2]
  by_cases hn : ps = []
  · subst hn
    have : os = [] := List.length_eq_zero_iff.mp (by simpa using h.symm)
    subst this
    rfl
  · rw [rows_join (by simpa using hn), List.flatMap_map]
    have h2 := repl_sub ps [] os hw h ho
    rw [List.nil_append, List.nil_append, List.length_nil] at h2
    rw [h2]
    have hn2 : (subP ps os).map (fun x => x.1) ≠ [] := by
      intro z
      have := congrArg List.length z
      rw [List.length_map, (subP_ok ps os hw h ho).2.2.1] at this
      exact hn (List.length_eq_zero_iff.mp (by simpa using this))
    have h3 := rows_join hn2
    rw [List.flatMap_map] at h3
    rw [← h3, joinL_rows]
def ChT (f : Nat → List Int) : List Nat → Prop
  | s :: t :: r => (s < t ∧ f s ≠ f t ∧ ∀ w, s ≤ w → w < t → f w = f s) ∧ ChT f (t :: r)
  | _ => True
theorem subP_mem : ∀ (ps : List Pcs) (os : List (List Nat)), (∀ x ∈ ps, PcW x) → ∀ x ∈ subP ps os, x ∈ ps ∨ ∃ o w, x = (o ++ w, [(o, w)]) ∧ o ∈ os ∧ NameOk w
  | [], os, _, x, m => by simp [subP] at m
  | (p, e) :: ps, os, hw, x, m => by
    have hw2 : ∀ x ∈ ps, PcW x := fun x m => hw x (List.mem_cons_of_mem _ m)
    rcases (hw (p, e) List.mem_cons_self).2 with he | ⟨l, w, he, hp, hl, hl2, hn⟩
    · dsimp only at he
      subst he
      rw [subP] at m
      rcases List.mem_cons.mp m with rfl | m
      · exact .inl List.mem_cons_self
      · rcases subP_mem ps os hw2 x m with h | ⟨o, w, h1, h2, h3⟩
        · exact .inl (List.mem_cons_of_mem _ h)
        · exact .inr ⟨o, w, h1, h2, h3⟩
    · dsimp only at he hp
      subst he
      cases os with
      | nil => exact .inl (by simpa [subP] using m)
      | cons o os =>
        rw [subP] at m
        rcases List.mem_cons.mp m with rfl | m
        · exact .inr ⟨o, w, rfl, List.mem_cons_self, hn⟩
        · rcases subP_mem ps os hw2 x m with h | ⟨o, w, h1, h2, h3⟩
          · exact .inl (List.mem_cons_of_mem _ h)
          · exact .inr ⟨o, w, h1, List.mem_cons_of_mem _ h2, h3⟩
theorem ow_ok {o w : List Nat} (ho : blankL o ∧ o.length ≤ 1000) (hn : NameOk w) : PcW (o ++ w, [(o, w)]) ∧ (o ++ w).length ≤ 1100 ∧ ∀ c ∈ o ++ w, c < 0x110000 := by
  refine ⟨⟨pc_name ho.1 ho.2 hn.1, .inr ⟨o, w, rfl, rfl, ho.1, ho.2, hn⟩⟩, by rw [List.length_append]; have := hn.2.1; omega, fun c m => ?_⟩
  rcases List.mem_append.mp m with m | m
  · rcases ho.1 c m with rfl | rfl <;> decide
  · exact of_decide_eq_true (List.all_eq_true.mp hn.2.2 c m)
theorem page_sub {ps : List Pcs} {bs : List (List Nat)} (hw : ∀ x ∈ ps, PcW x) (h : (ps.flatMap fun x => x.2).length = bs.length) (hc : bs.length ≤ 20) (ho : ∀ o ∈ bs, blankL o ∧ o.length ≤ 1000) (hl : ps.length ≤ 100) (hb : ∀ x ∈ ps, x.1.length ≤ 1100 ∧ ∀ c ∈ x.1, c < 0x110000) :
    (SX.S (TL.joinL [10] ((subP ps bs).map fun x => x.1))).length ≤ 200000 ∧ PyData.strOk (SX.S (TL.joinL [10] ((subP ps bs).map fun x => x.1))) = true ∧ okTx (TL.joinL [10] ((subP ps bs).map fun x => x.1)) ∧ inS (TL.joinL [10] ((subP ps bs).map fun x => x.1)) = bs.map SX.S := by
  obtain ⟨g1, g2, g3, _⟩ := subP_ok ps bs hw h ho
  refine page_all (fun x m => (g1 x m).1) ?_ (by omega) (fun x m => ?_) (by rw [List.length_map]; exact hc)
  · conv => rhs; rw [← g2]
    rw [List.map_map]; rfl
  · rcases subP_mem ps bs hw x m with h | ⟨o, w, rfl, mo, hn⟩
    · exact hb x h
    · exact (ow_ok (ho o mo) hn).2
def catD (d : PyData) : PyData := match d with
  | .tuple [.str a, .str b] => .str (a ++ b)
  | d => d
def bkD (d : PyData) : PyData := match d with
  | .str z => .str (SX.S (indL (runsL (tl z)).reverse (tailL (tl z))))
  | d => d
end Pz
set_option maxRecDepth 100000
namespace Pz
open PySem PySem.Spec PyProof.Rows L2 TL
variable [PenC]
def hrdT (c : Str) (fs : List (Str × PyData)) : Option PyData :=
  if c = Str.ofString "InvalidText" then some (.tuple [.str "text", .none])
  else if c = Str.ofString "UnbalancedBracket" then (fs.lookup (Str.ofString "number")).map fun d => .tuple [.str "bracket", d]
  else if c = Str.ofString "TooLong" then (fs.lookup (Str.ofString "length")).map fun d => .tuple [.str "long", d]
  else if c = Str.ofString "TooMany" then (fs.lookup (Str.ofString "count")).map fun d => .tuple [.str "many", d]
  else none
inductive Ans where
  | ok (d : PyData)
  | err (c : Str) (fs : List (Str × PyData))
abbrev insL (ls : List Ln) : List Str := ls.map fun x => SX.S x.2.1
def inA (d : PyData) : Ans := match lgD d with
  | .ok ls => .ok (.list ((insL ls).map .str))
  | .err c fs => .err c fs
def shortA (zs : List Str) (x : PyData) : Ans := if 60 < lonG (zs.map .str) then .err "TooLong" [("length", .int (lonG (zs.map .str)))] else .ok x
def vwA (d : PyData) : Ans := match lgD d with
  | .ok ls => shortA (insL ls) (.list (vwD (insL ls)))
  | .err c fs => .err c fs
def poA (d : PyData) : Ans := match lgD d with
  | .ok ls => shortA (insL ls) (.bool (poD (insL ls)))
  | .err c fs => .err c fs
def spA (d : PyData) : Ans := match lgD d with
  | .ok ls => shortA (insL ls) (splD (insL ls))
  | .err c fs => .err c fs
def duT (d : PyData) : PyData := match vwA d with
  | .ok _ => .none
  | .err c fs => (hrdT c fs).getD .none
def shA (d : PyData) : Ans := match vwA d with
  | .ok x => .ok (.bool ((PyData.str (PyData.list []).shown).eqv (.str x.shown)))
  | .err c fs => .err c fs
end Pz
set_option maxRecDepth 100000
namespace Pz
open PySem PySem.Spec PyProof.Rows L2 TL
variable [PenC]
structure Pg (T : List Nat) (zs : List Str) : Prop where
  row : ∀ r ∈ rowsL T, (ldL r).length ≤ 1000
  go : ∃ L : List Ln, insL L = zs ∧ ∀ rest, goL [] 0 0 (rowsL T ++ rest) = goL L 0 (rowsL T).length rest
  chr : ∀ c ∈ T, c < 0x110000
theorem Pg.snoc {T p : List Nat} {zs : List Str} {e : List (List Nat × List Nat)} (h : Pg T zs) (hp : Pc p e) (hc : ∀ c ∈ p, c < 0x110000) : Pg (T ++ 10 :: p) (zs ++ e.map fun x => SX.S x.1) := by
  obtain ⟨L, hL, hg⟩ := h.go
  refine ⟨fun r m => ?_, ⟨L ++ e.map (fun x => ((rowsL T).length, x.1, x.2)), ?_, fun rest => ?_⟩, fun c m => ?_⟩
  · rw [rowsL_app] at m
    rcases List.mem_append.mp m with m | m
    · exact h.row r m
    · exact hp.1 r m
  · rw [← hL, insL, List.map_append, List.map_map]; rfl
  · rw [rowsL_app, List.append_assoc, hg, hp.2, List.length_append]
  · rcases List.mem_append.mp m with m | m
    · exact h.chr c m
    · rcases List.mem_cons.mp m with rfl | m
      · decide
      · exact hc c m
theorem Pg.log {T : List Nat} {zs : List Str} (h : Pg T zs) : (20 < zs.length → logL T = .err "TooMany" [("count", .int (zs.length : Nat))]) ∧ (zs.length ≤ 20 → ∃ L, logL T = .ok L ∧ insL L = zs) := by
  obtain ⟨L, hL, hg⟩ := h.go
  have hl : L.length = zs.length := by rw [← hL, List.length_map]
  have e := hg []
  rw [List.append_nil, goL] at e
  have ha : ((rowsL T).all fun r => decide ((ldL r).length ≤ 1000)) = true := List.all_eq_true.mpr fun r m => decide_eq_true (h.row r m)
  unfold logL
  rw [if_pos ha, e]
  dsimp only
  rw [if_neg (by decide), hl]
  exact ⟨fun hz => by rw [if_pos hz], fun hz => ⟨L, by rw [if_neg (by omega)], hL⟩⟩
theorem Pg.all {T x : List Nat} {zs : List Str} (h : Pg T zs) (hx : ((rowsL x).all fun r => decide ((ldL r).length ≤ 1000)) = true) : ((rowsL (T ++ 10 :: x)).all fun r => decide ((ldL r).length ≤ 1000)) = true := by
  rw [rowsL_app, List.all_append, hx, Bool.and_true]
  exact List.all_eq_true.mpr fun r m => decide_eq_true (h.row r m)
def x43a : List Nat := List.replicate 999 32 ++ [9, 35, 32, 97]
def x43b : List Nat := [120, 40, 10] ++ List.replicate 1000 32 ++ [41]
theorem Pg.ok {T : List Nat} {zs : List Str} (h : Pg T zs) : PyData.strOk (SX.S T) = true := strOk_iff.mpr h.chr
theorem Pg.okT {T X : List Nat} {zs : List Str} (h : Pg T zs) (hl : T.length + X.length ≤ 1000000) (hx : ∀ c ∈ X, c < 0x110000) : ∀ z : Str, PyData.str (SX.S (T ++ X)) = .str z → z.length ≤ 1000000 ∧ PyData.strOk z = true := fun z e => by
  cases e
  refine ⟨by rw [SX.S_len, List.length_append]; exact hl, strOk_iff.mpr fun c m => ?_⟩
  rcases List.mem_append.mp (show c ∈ T ++ X from m) with m | m
  · exact h.chr c m
  · exact hx c m
def t43 (n : Nat) : List Nat := [97] ++ 10 :: (List.replicate n 32 ++ [98])
end Pz
set_option maxRecDepth 100000
namespace Pz
open PySem PySem.Spec PyProof.Rows L2 TL
variable [PenC]
def wtL (l : List Nat) : Nat := (l.map fun c => if c = 9 then 8 else 1).sum
theorem wtL_cons {c : Nat} {l : List Nat} : wtL (c :: l) = (if c = 9 then 8 else 1) + wtL l := by
  unfold wtL; rw [List.map_cons, List.sum_cons]
theorem wtL_ge : ∀ {l : List Nat}, l.length ≤ wtL l
  | [] => Nat.le_refl _
  | c :: l => by
    have := wtL_ge (l := l)
    rw [wtL_cons, List.length_cons]
    split <;> omega
def BrZ (k : Nat) (z : Str) : Prop := blankL (tl z) ∧ wtL (tl z) ≤ 32 * k
theorem BrZ.mono {k m : Nat} {z : Str} (h : BrZ k z) (hk : k ≤ m) : BrZ m z := ⟨h.1, by have := h.2; omega⟩
theorem BrZ.len {k : Nat} {z : Str} (h : BrZ k z) : z.length ≤ 32 * k := by
  have := wtL_ge (l := tl z)
  rw [Pz.len_tl]; have := h.2; omega
end Pz
set_option maxRecDepth 100000
namespace Pz
variable [PenC]
open PySem PySem.Spec PyProof.Rows L2 TL
def zeroAt (ds : List PyData) (i : Nat) : Bool := match ds[i]? with
  | some (.int x) => decide (x = 0)
  | _ => false
def rootV (ds : List PyData) (i : Nat) : PyData := if ds.length < i then .none else .bool (zeroAt ds i)
def rootK (ds : List PyData) (i : Nat) : PyData := if ds.length < i then .int 0 else .int (if zeroAt ds i then 1 else 2)
def itemsT (d : PyData) : List PyData := match d with
  | .tuple ds => ds
  | _ => []
def isB (b : Bool) (i : Nat) (d : PyData) : Bool := !decide ((itemsT d).length < i) && (zeroAt (itemsT d) i == b)
def confAt (fs : List PyData) (i : Nat) : Option PyData := match fs.findIdx? (isB true i), fs.findIdx? (isB false i) with
  | some a, some b => some (.tuple [.int (i : Nat), .int (a : Nat), .int (b : Nat)])
  | _, _ => none
def conf (fs : List PyData) : Nat → Nat → PyData
  | 0, _ => .none
  | n + 1, k => match confAt fs k with
    | some d => d
    | none => conf fs n (k + 1)
def Fam (n : Nat) (fs : List PyData) : Prop := ∃ roots : Nat → Bool, ∀ d ∈ fs, ∃ ds, d = .tuple ds ∧ Ints (fun x => 0 ≤ x ∧ x ≤ 50) ds ∧ ds.length ≤ n ∧ ∀ i, i ≤ ds.length → i < n → zeroAt ds i = roots i
theorem Fam.conf {n : Nat} {fs : List PyData} (h : Fam n fs) : ∀ m k, k + m ≤ n → Pz.conf fs m k = .none
  | 0, _, _ => rfl
  | m + 1, k, hk => by
    obtain ⟨roots, hr⟩ := id h
    have e : confAt fs k = none := by
      unfold confAt
      cases h1 : fs.findIdx? (isB true k) with
      | none => rfl
      | some a =>
        cases h2 : fs.findIdx? (isB false k) with
        | none => rfl
        | some b =>
          exfalso
          obtain ⟨ha, pa, _⟩ := List.findIdx?_eq_some_iff_getElem.mp h1
          obtain ⟨hb, pb, _⟩ := List.findIdx?_eq_some_iff_getElem.mp h2
          obtain ⟨ds, e1, _, _, z1⟩ := hr fs[a] (List.getElem_mem ha)
          obtain ⟨es, e2, _, _, z2⟩ := hr fs[b] (List.getElem_mem hb)
          unfold isB at pa pb
          rw [e1] at pa
          rw [e2] at pb
          simp only [itemsT, Bool.and_eq_true, Bool.not_eq_true', decide_eq_false_iff_not, beq_iff_eq] at pa pb
          have w1 := z1 k (Nat.le_of_not_lt (of_decide_eq_false pa.1)) (by omega)
          have w2 := z2 k (Nat.le_of_not_lt (of_decide_eq_false pb.1)) (by omega)
          rw [pa.2] at w1
          rw [pb.2] at w2
          rw [← w1] at w2
          cases w2
    rw [Pz.conf, e]
    exact Fam.conf h m (k + 1) (by omega)
def FamB (a : Nat) (bs : List Bool) (fs : List PyData) : Prop := ∀ d ∈ fs, ∃ ds, d = .tuple ds ∧ Ints (fun x => 0 ≤ x ∧ x ≤ 50) ds ∧ ds.length ≤ a ∧ ∀ i, i ≤ ds.length → i < a → zeroAt ds i = bs.getD i false
end Pz
set_option maxRecDepth 100000
namespace Pz
open PySem PySem.Spec PyProof.Rows L2 TL
variable [PenC]
def seqOk : Int → List PyData → Bool
  | _, [] => true
  | b, .int x :: r => decide (0 ≤ x) && decide (x ≤ b + 1) && seqOk x r
  | _, _ => false
def lastD : List PyData → Int
  | [] => 0
  | [.int x] => x
  | _ :: r => lastD r
theorem lastD_snoc (x : Int) : ∀ (l : List PyData), lastD (l ++ [.int x]) = x
  | [] => rfl
  | [d] => by cases d <;> rfl
  | d :: e :: r => by rw [List.cons_append, List.cons_append, lastD]; · exact lastD_snoc x (e :: r)
                      · intro y _ h; cases h
theorem seqOk_snoc (x : Int) : ∀ (l : List PyData) (b : Int), seqOk b l = true → 0 ≤ x → (∀ b', (l = [] → b' = b) → (∀ i y, l = i ++ [.int y] → b' = y) → x ≤ b' + 1) → seqOk b (l ++ [.int x]) = true
  | [], b, _, h0, h => by
    have := h b (fun _ => rfl) (fun i y e => by simp at e)
    simp [seqOk, h0, this]
  | d :: r, b, hs, h0, h => by
    cases d with
    | int z =>
      rw [seqOk, Bool.and_eq_true, Bool.and_eq_true] at hs
      rw [List.cons_append, seqOk, hs.1.1, hs.1.2, Bool.true_and, Bool.true_and]
      refine seqOk_snoc x r z hs.2 h0 fun b' e1 e2 => h b' (fun e => by simp at e) fun i y e => ?_
      cases i with
      | nil => simp at e; rw [e1 e.2, e.1]
      | cons a i => simp at e; exact e2 i y e.2
    | _ => simp [seqOk] at hs
def possD : PyData → Int → Bool
  | .tuple vs, c => decide ((vs.length : Int) ≤ c) && seqOk (-1) vs && (decide (vs.length = 0) || decide ((vs.length : Int) = c) || decide (0 < lastD vs))
  | _, _ => false
end Pz
set_option maxRecDepth 100000
namespace Pz
open PySem PySem.Spec PyProof.Rows L2 TL
variable [PenC]
theorem asc_len1 {s : List Int} (h : Asc s) : s.length = 1 ↔ lastI s = 0 := by
  obtain ⟨h1, r, rfl⟩ := h
  constructor
  · intro e
    cases r with
    | nil => rfl
    | cons a r => simp at e
  · intro e
    cases r with
    | nil => rfl
    | cons a r =>
      exfalso
      have ha : 0 < a := (List.pairwise_cons.mp h1).1 a List.mem_cons_self
      have := Asc.le_last ⟨h1, _, rfl⟩ a (by simp)
      omega
theorem lvG_poss {n : Nat} : ∀ (cs s f : List Int), Asc s → (∀ c ∈ cs, 0 ≤ c) → (f = [] → s = [0]) → (∀ i y, f = i ++ [y] → y = (s.length : Int) - 1) → seqOk (-1) (f.map .int) = true → f.length + cs.length = n →
    ∃ g, lvG s f cs = f ++ g ∧ g.length ≤ cs.length ∧ (∀ i, i < g.length → ∃ x c, g[i]? = some x ∧ cs[i]? = some c ∧ (x = 0 ↔ c = 0)) ∧ (g.length < cs.length → ∃ c, cs[g.length]? = some c ∧ c ≠ 0) ∧ seqOk (-1) ((f ++ g).map .int) = true ∧ (f ++ g = [] ∨ (f ++ g).length = n ∨ 0 < lastD ((f ++ g).map .int))
  | [], s, f, hs, hc, hf, hl, hq, hn => ⟨[], by rw [lvG, List.append_nil], Nat.le_refl _, (fun i hi => by simp at hi), (fun hi => by simp at hi), by rw [List.append_nil]; exact hq, .inr (.inl (by rw [List.append_nil]; simpa using hn))⟩
  | c :: r, s, f, hs, hc, hf, hl, hq, hn => by
    have hc0 := hc c List.mem_cons_self
    have h2 := hs.nx (f := f) hc0
    have h3 := nxS_len (s := s) (f := f) (c := c)
    have h4 := h2.len
    have h5 := hs.len
    rw [lvG]
    by_cases e : lastI (nxS s f c) = c
    · rw [if_pos e]
      have hz : ((nxS s f c).length : Int) - 1 = 0 ↔ c = 0 := by
        have := asc_len1 h2
        rw [e] at this
        rw [← this]; omega
      have hq2 : seqOk (-1) ((f ++ [((nxS s f c).length : Int) - 1]).map .int) = true := by
        rw [List.map_append]
        refine seqOk_snoc _ _ _ hq (by omega) fun b' e1 e2 => ?_
        by_cases hf0 : f = []
        · rw [e1 (by rw [hf0]; rfl)]
          have : nxS s f c = [0] ∨ (nxS s f c).length ≤ 1 := by
            right
            unfold nxS
            rw [if_neg (fun h => h.2 hf0), hf hf0]
            exact List.length_filter_le _ _
          rcases this with h | h
          · rw [h]; decide
          · omega
        · obtain ⟨a, y, ef⟩ : ∃ a y, f = a ++ [y] := ⟨_, _, (List.dropLast_concat_getLast hf0).symm⟩
          have hy := hl a y ef
          rw [e2 (a.map .int) y (by rw [ef, List.map_append]; rfl), hy]
          omega
      obtain ⟨g, g1, g2, g3, g4, g5, g6⟩ := lvG_poss (n := n) r (nxS s f c) (f ++ [((nxS s f c).length : Int) - 1]) h2 (fun x m => hc x (List.mem_cons_of_mem _ m)) (fun h => by simp at h) (fun i y h => by
        have := List.append_inj_right' h rfl
        simp at this; exact this.symm) hq2 (by simp only [List.length_append, List.length_cons, List.length_nil] at hn ⊢; omega)
      refine ⟨(((nxS s f c).length : Int) - 1) :: g, by rw [g1, List.append_assoc]; rfl, by simp only [List.length_cons]; omega, fun i hi => ?_, fun hi => ?_, by rw [List.append_assoc] at g5; exact g5, by rw [List.append_assoc] at g6; exact g6⟩
      · cases i with
        | zero => exact ⟨_, _, rfl, rfl, hz⟩
        | succ i => exact g3 i (by simpa using hi)
      · exact g4 (by simpa using hi)
    · rw [if_neg e]
      have hcn : c ≠ 0 := fun h0 => by
        subst h0
        refine e ?_
        unfold nxS
        by_cases hq1 : lastI s < 0 ∧ f ≠ []
        · obtain ⟨_, r0, rfl⟩ := id hs
          have := hs.le_last 0 List.mem_cons_self
          omega
        · rw [if_neg hq1]
          have hfil := hs.fil (c := 0) (by decide)
          have h9 := hfil.le_last
          obtain ⟨hp, r1, e1⟩ := hfil
          have hm : lastI (s.filter fun x => decide (x ≤ 0)) ∈ (s.filter fun x => decide (x ≤ 0)) := by
            rw [e1]
            obtain ⟨a, y, e2⟩ : ∃ a y, (0 : Int) :: r1 = a ++ [y] := ⟨_, _, (List.dropLast_concat_getLast (by simp)).symm⟩
            rw [e2, lastI_snoc]; simp
          have h10 := of_decide_eq_true (List.mem_filter.mp hm).2
          have h11 := h9 0 (by rw [e1]; exact List.mem_cons_self)
          omega
      refine ⟨[], by rw [List.append_nil], Nat.zero_le _, (fun i hi => by simp at hi), (fun _ => ⟨c, rfl, hcn⟩), by rw [List.append_nil]; exact hq, ?_⟩
      rw [List.append_nil]
      by_cases hf0 : f = []
      · exact .inl hf0
      · refine .inr (.inr ?_)
        obtain ⟨a, y, ef⟩ : ∃ a y, f = a ++ [y] := ⟨_, _, (List.dropLast_concat_getLast hf0).symm⟩
        have hy := hl a y ef
        rw [ef, List.map_append, List.map_cons, List.map_nil, lastD_snoc, hy]
        have : ¬ s.length = 1 := fun h1 => by
          have h0 := (asc_len1 hs).mp h1
          have : lastI s < c := by omega
          refine e ?_
          unfold nxS
          rw [if_pos ⟨this, hf0⟩, lastI_snoc]
        omega
theorem lvF_poss {cs : List Int} (hc : ∀ c ∈ cs, 0 ≤ c) : possD (tpI (lvF cs)) (cs.length : Nat) = true ∧ ∀ i, i ≤ (lvF cs).length → i < cs.length → ∃ c, cs[i]? = some c ∧ zeroAt ((lvF cs).map .int) i = decide (c = 0) := by
  obtain ⟨g, g1, g2, g3, g4, g5, g6⟩ := lvG_poss (n := cs.length) cs [0] [] asc0 hc (fun _ => rfl) (fun i y h => by simp at h) rfl (by simp)
  rw [List.nil_append] at g1 g5 g6
  have e : lvF cs = g := g1
  rw [e]
  refine ⟨?_, fun i h1 h2 => ?_⟩
  · unfold possD tpI
    dsimp only
    rw [g5, List.length_map, decide_eq_true (by omega), Bool.and_true, Bool.true_and]
    rcases g6 with h | h | h
    · rw [h]; rfl
    · rw [decide_eq_true (show (g.length : Int) = cs.length by omega)]; simp
    · rw [decide_eq_true h, Bool.or_true]
  · unfold zeroAt
    rw [List.getElem?_map]
    rcases Nat.lt_or_ge i g.length with h | h
    · obtain ⟨x, c, e1, e2, e3⟩ := g3 i h
      refine ⟨c, e2, ?_⟩
      rw [e1]
      exact decide_eq_decide.mpr e3
    · obtain rfl : i = g.length := by omega
      obtain ⟨c, e2, e3⟩ := g4 h2
      refine ⟨c, e2, ?_⟩
      rw [List.getElem?_eq_none (Nat.le_refl _), decide_eq_false e3]
      rfl
theorem rowsA_ne0 : ∀ (l acc : List Nat), rowsA acc l ≠ []
  | [], acc => by rw [rowsA]; nofun
  | c :: l, acc => by
    rw [rowsA]
    split
    · nofun
    · exact rowsA_ne0 l _
def rwD (ps : List Pcs) : List PyData := (ps.flatMap fun x => rowsL x.1).map fun p => .str (SX.S p)
def nuD (ps : List Pcs) : List PyData := (pgE 0 ps).map fun x => .int (x.1 : Nat)
def PcB (x : Pcs) : Prop := Pc x.1 x.2 ∧ x.1.length ≤ 1100 ∧ ∀ c ∈ x.1, c < 0x110000
def wdF : List Nat := [102, 40, 10, 9, 32, 32, 120, 10, 41]
theorem colL_pos {b : Int} (h0 : 0 < b) : ∀ (l : List Nat) (f : Int), 0 ≤ f → l ≠ [] → 0 < colL b l f
  | [], f, h, hn => absurd rfl hn
  | c :: cs, f, h, hn => by
    have e := tab_step h0 f
    have h1 := Int.emod_nonneg f (by omega : b ≠ 0)
    have h2 := Int.emod_lt_of_pos f h0
    have q : 0 < (if c = 32 then f + 1 else (f / b + 1) * b) := by
      split
      · omega
      · rw [e]
        have h3 := Int.mul_ediv_add_emod f b
        have h4 : 0 ≤ b * (f / b) := Int.mul_nonneg (by omega) (Int.ediv_nonneg h (by omega))
        omega
    rw [colL]
    by_cases hc : cs = []
    · rw [hc, colL]; exact q
    · exact colL_pos h0 cs _ (by omega) hc
theorem colZ_zero {z : Str} (h : blankL (tl z)) {w : Int} (h0 : 0 < w) : colZ w z = 0 ↔ tl z = [] := by
  rw [colZ_L h]
  constructor
  · intro e
    exact Classical.byContradiction fun hn => by have := colL_pos h0 (tl z) 0 (Int.le_refl _) hn; omega
  · intro e; rw [e]; rfl
def LvZ (zs : List Str) (d : PyData) : Prop := ∃ w : Int, 0 < w ∧ w ≤ 10 ^ 9 ∧ d = tpI (lvF (zs.map (colZ w)))
def isNil (z : Str) : Bool := decide (tl z = [])
theorem LvZ.all {zs : List Str} (hz : ∀ z ∈ zs, blankL (tl z)) {d : PyData} (h : LvZ zs d) : ∃ l : List Int, d = tpI l ∧ l.length ≤ zs.length ∧ possD d (zs.length : Nat) = true ∧ Ints (fun x => 0 ≤ x ∧ x ≤ zs.length) (l.map .int) ∧
    ∀ i, i ≤ l.length → i < zs.length → zeroAt (l.map .int) i = ((zs.map isNil)[i]?.getD false) := by
  obtain ⟨w, w0, w1, rfl⟩ := h
  have hc : ∀ c ∈ zs.map (colZ w), 0 ≤ c := fun c m => by
    obtain ⟨z, mz, rfl⟩ := List.mem_map.mp m
    exact (colZ_nn (hz z mz) w0 w1).1
  obtain ⟨p1, p2⟩ := lvF_poss hc
  obtain ⟨b1, b2⟩ := lvF_bd hc
  rw [List.length_map] at p1 p2 b1 b2
  refine ⟨_, rfl, b2, p1, fun d m => ?_, fun i h1 h2 => ?_⟩
  · obtain ⟨x, mx, rfl⟩ := List.mem_map.mp m
    exact ⟨x, rfl, b1 x mx⟩
  · obtain ⟨c, e1, e2⟩ := p2 i h1 h2
    rw [e2]
    rw [List.getElem?_map] at e1 ⊢
    rw [List.getElem?_eq_getElem h2] at e1 ⊢
    simp only [Option.map_some, Option.some.injEq, Option.getD_some] at e1 ⊢
    rw [← e1]
    unfold isNil
    exact decide_eq_decide.mpr (colZ_zero (hz _ (List.getElem_mem h2)) w0)
end Pz
set_option maxRecDepth 100000
namespace Pz
open PySem PySem.Spec PyProof.Rows L2 TL
variable [PenC]
def rdA (d : PyData) (w : Int) : Ans := match lgD d with
  | .ok ls => .ok (tpI (lvF ((insL ls).map (colZ w))))
  | .err c fs => .err c fs
def hrdB (c : Str) (fs : List (Str × PyData)) : Option PyData := if c = Str.ofString "TooLong" then none else hrdT c fs
def mnP (n : Nat) : List Pcs := List.replicate n ([9, 98], [([9], [98])]) ++ [([], [])]
def mnT (n : Nat) : List Nat := TL.joinL [10] ((mnP n).map fun x => x.1)
def wdP (bs : List Str) : List Pcs := bs.map fun z => (tl z ++ [120], [(tl z, [120])])
def wdT (bs : List Str) : List Nat := TL.joinL [10] ((wdP bs).map fun x => x.1)
end Pz
set_option maxRecDepth 100000
namespace Pz
open PySem PySem.Spec PyProof.Rows L2 TL
variable [PenC]
def faA (d : PyData) (k : Int) : Ans := match lgD d with
  | .ok ls => .ok (.list ((List.range (k + 1).toNat).map fun i => tpI (lvE (insL ls) (i + 1))))
  | .err c fs => .err c fs
def fmD (zs : List Str) (k : Int) : List PyData := (List.range (k + 1).toNat).map fun i => tpI (lvE zs (i + 1))
end Pz
set_option maxRecDepth 100000
namespace Pz
open PySem PySem.Spec PyProof.Rows L2 TL
variable [PenC]
abbrev lvZ (zs : List Str) (w : Int) : List Int := lvF (zs.map (colZ w))
def acB (zs : List Str) (ws : List Int) : Bool := ws.all fun w => decide (lvZ zs w = lvZ zs (ws.headD 0)) && decide ((lvZ zs w).length = zs.length)
def acA (d : PyData) (ws : List Int) : Ans := match lgD d with
  | .ok ls => .ok (.bool (acB (insL ls) ws))
  | .err c fs => .err c fs
def acD (zs : List Str) (ws : List Int) (d : PyData) : PyData := match d with
  | .tuple ds => .bool (PyData.eqv (.tuple ds) (tpI (lvZ zs (ws.headD 0))) && decide (ds.length = zs.length))
  | d => d
def WdD (d : PyData) : Prop := ∃ ws : List Int, d = .list (ws.map .int) ∧ ws ≠ [] ∧ (ws.length ≤ 6 ∨ ws.length = 12) ∧ ∀ w ∈ ws, 1 ≤ w ∧ w ≤ 10 ^ 9
end Pz
set_option maxRecDepth 100000
namespace Pz
open PySem PySem.Spec PyProof.Rows L2 TL
variable [PenC]
def blkB (d : PyData) (l : Int) (tf : Bool) : Bool := isInd d && (!tf || tabF (sof d)) && decide (gMax (sof d) ≤ l)
def pairB (ws : List PyData) (l : Int) (v : PyData) (tf : Bool) : Bool := match v with
  | .tuple [x, y, w] => blkB x l tf && (blkB y l tf && (intBetw w 1 1000000000 && (sameB (sof x) (sof y) ws && !decide (sgnF (sof x) (sof y) (toI w).toNat = sgnF (sof x) (sof y) (toI (ws.headD .none)).toNat))))
  | _ => false
end Pz
namespace Pz
open PySem PySem.Spec PyProof.Rows L2 TL
variable [PenC]
def sgD (a b : Str) (d : PyData) : PyData := .int (sgnF a b (toI d).toNat)
end Pz
namespace Pz
open PySem PySem.Spec PyProof.Rows L2 TL
variable [PenC]
end Pz
namespace Pz
open PySem PySem.Spec PyProof.Rows L2 TL
variable [PenC]
end Pz
namespace Pz
open PySem PySem.Spec PyProof.Rows L2 TL
variable [PenC]
theorem okT {x y : Str} (h1 : PyData.strOk x = true) (h2 : PyData.strOk y = true) : PyData.strOk (x ++ y) = true := by
  rw [strOk_iff] at *
  intro c m
  rw [tl_add] at m
  exact (List.mem_append.mp m).elim (h1 c) (h2 c)
end Pz
set_option maxRecDepth 100000
namespace Pz
open PySem PySem.Spec PyProof.Rows L2 TL
variable [PenC]
end Pz
set_option maxRecDepth 100000
namespace Pz
open PySem PySem.Spec PyProof.Rows L2 TL
variable [PenC]
def okV (m : Nat) : Bool := decide (m = 0) || (!(apX (cA (unitL m)) m).isEmpty && !(apY (cA (unitL m)) m).isEmpty)
def fooP (F G : List Nat) : List Pcs := [([97], [([], [97])]), (F ++ [98], [(F, [98])]), (G ++ [99], [(G, [99])])]
def fooL (F G : List Nat) : List Nat := TL.joinL [10] ((fooP F G).map fun x => x.1)
def fooZ (F G : List Nat) : List Str := [SX.S [], SX.S F, SX.S G]
def f3 (s : Int) : List Int := if s < 0 then [0, 1, 2] else if s = 0 then [0, 1, 1] else [0, 1]
def lbD (d : PyData) : PyData := match d with
  | .tuple [_, i, b] => .tuple [i, b]
  | d => d
def fooR (F G : List Nat) : List (Str × Str) := [(SX.S [], SX.S [97]), (SX.S F, SX.S [98]), (SX.S G, SX.S [99])]
abbrev pairD (p : Str × Str) : PyData := .tuple [.str p.1, .str p.2]
def grpZ (z : Str) : List Int := (runsL (tl z) ++ [tailL (tl z)]).map fun n : Nat => (n : Int)
def lenD (d : PyData) : PyData := match d with
  | .str x => .int (x.length : Nat)
  | d => d
def neF (zs : List Str) (L : List Int) (d : PyData) : Option PyData := if lvZ zs (toI d) = L then none else some d
def fstZ (d : PyData) : Str := match d with
  | .tuple [.str z, _] => z
  | _ => ⟨#[]⟩
structure FooOk (ws : List PyData) (l : Int) (tf : Bool) (F G : List Nat) : Prop where
  bF : blankL F ∧ F.length ≤ 900
  bG : blankL G ∧ G.length ≤ 900
  gF : gMax (SX.S F) ≤ l
  gG : gMax (SX.S G) ≤ l
  fr : tf = true → tabF (SX.S F) = true ∧ tabF (SX.S G) = true
  lv : ∃ L : List Int, L.length = 3 ∧ (∀ w : Int, PyData.int w ∈ ws → lvZ (fooZ F G) w = L) ∧ ∃ x : Int, 1 ≤ x ∧ x ≤ max (gMax (SX.S F)) (gMax (SX.S G)) + 1 ∧ lvZ (fooZ F G) x ≠ L
def fooD (ws : List PyData) (l : Int) (tf : Bool) : PyData := match undD ws l tf with
  | .tuple [.str a, .str b, _] => if 0 < sgnI (colZ (toI (ws.headD .none)) a) (colZ (toI (ws.headD .none)) b) then .str (SX.S (fooL (tl b) (tl a))) else .str (SX.S (fooL (tl a) (tl b)))
  | _ => .none
end Pz
set_option maxRecDepth 100000
namespace Pz
open PySem PySem.Spec PyProof.Rows L2 TL
variable [PenC]
theorem nmS (n : Nat) : PyData.shown (.int (n : Nat)) = SX.S (numL n) := by
  rw [← TL.tl_num n, shown_int]
theorem joinL_lenG {sep : List Nat} {B : Nat} : ∀ {l : List (List Nat)}, (∀ x ∈ l, x.length ≤ B) → (TL.joinL sep l).length ≤ (B + sep.length) * l.length
  | [], _ => by simp [TL.joinL]
  | [p], h => by
    have := h p List.mem_cons_self
    simp [TL.joinL]; omega
  | p :: q :: r, h => by
    have h1 := h p List.mem_cons_self
    have := joinL_lenG (sep := sep) (l := q :: r) fun x m => h x (List.mem_cons_of_mem _ m)
    rw [show TL.joinL sep (p :: q :: r) = p ++ (sep ++ TL.joinL sep (q :: r)) by simp [TL.joinL], List.length_append, List.length_append, List.length_cons, Nat.mul_succ]
    omega
def rdQ (ls : List Int) : List Nat := if ls = [] then [45] else TL.joinL [44] (ls.map fun i => numL i.toNat)
def enQ (e : PyData) : List Nat := match e with
  | .int t => numL t.toNat
  | _ => []
def vwQ (d : PyData) : List Nat := match d with
  | .tuple [.int s, e, .tuple ls] => numL s.toNat ++ [45] ++ enQ e ++ [32] ++ rdQ (ls.map toI)
  | _ => []
def vwsQ (ds : List PyData) : List Nat := TL.joinL [59, 32] (ds.map vwQ)
structure LvOk (ls : List Int) : Prop where
  len : ls.length ≤ 30
  bd : ∀ x ∈ ls, 0 ≤ x ∧ x ≤ 1000
def EnOk (e : PyData) : Prop := e = .none ∨ ∃ t : Int, e = .int t ∧ 0 ≤ t ∧ t ≤ 10 ^ 12
def IsVw (d : PyData) : Prop := ∃ (s : Int) (e : PyData) (ls : List Int), d = .tuple [.int s, e, tpI ls] ∧ 0 ≤ s ∧ s ≤ 10 ^ 12 ∧ EnOk e ∧ LvOk ls
theorem numL_ok {n c : Nat} (m : c ∈ numL n) : c < 128 := by have := numL_digits n c m; omega
theorem joinL_mem {sep : List Nat} {c : Nat} : ∀ {ps : List (List Nat)}, c ∈ TL.joinL sep ps → c ∈ sep ∨ ∃ p ∈ ps, c ∈ p
  | [], m => by simp [TL.joinL] at m
  | [p], m => .inr ⟨p, List.mem_cons_self, by simpa [TL.joinL] using m⟩
  | p :: q :: r, m => by
    rw [show TL.joinL sep (p :: q :: r) = p ++ (sep ++ TL.joinL sep (q :: r)) by simp [TL.joinL]] at m
    rcases List.mem_append.mp m with m | m
    · exact .inr ⟨p, List.mem_cons_self, m⟩
    · rcases List.mem_append.mp m with m | m
      · exact .inl m
      · rcases joinL_mem m with h | ⟨x, mx, h⟩
        · exact .inl h
        · exact .inr ⟨x, List.mem_cons_of_mem _ mx, h⟩
theorem strOk_asc {l : List Nat} (h : ∀ c ∈ l, c < 128) : PyData.strOk (SX.S l) = true := by
  unfold PyData.strOk
  refine Array.all_eq_true_iff_forall_mem.mpr fun c m => ?_
  have := h c (by simpa [SX.S] using m)
  simp; omega
end Pz
set_option maxRecDepth 100000
namespace Pz
open PySem PySem.Spec PyProof.Rows L2 TL
variable [PenC]
def tbN (z : Str) : Nat := (runsL (tl z)).length
end Pz
set_option maxRecDepth 100000
namespace Pz
open PySem PySem.Spec PyProof.Rows L2 TL
variable [PenC]
def thD (d : PyData) : PyData := match d with
  | .tuple [_, _, c] => c
  | d => d
def jI (f : Nat → Int) : Nat → List Int
  | 0 => []
  | k + 1 => if k = 0 ∨ f k ≠ f (k + 1) then jI f k ++ [f (k + 1)] else jI f k
def TbZ (k : Nat) (l : Int) (z : Str) : Prop := ∃ t s : Nat, z = SX.S (indL (List.replicate t 0) s) ∧ t ≤ k ∧ (s : Int) ≤ l
theorem tb_lst (t s : Nat) : indL (List.replicate t 0) s = List.replicate t 9 ++ List.replicate s 32 := by
  unfold indL
  congr 1
  induction t with
  | zero => rfl
  | succ t ih => rw [List.replicate_succ, List.replicate_succ, ← ih]; simp [indP]
theorem TbZ.tabF {k : Nat} {l : Int} {z : Str} (h : TbZ k l z) : Pz.tabF z = true := by
  obtain ⟨t, s, rfl, _, _⟩ := h
  unfold Pz.tabF
  rw [tl_S, runs_ind]
  exact decide_eq_true (by simp)
theorem TbZ.blank {k : Nat} {l : Int} {z : Str} (h : TbZ k l z) : blankL (tl z) := by
  obtain ⟨t, s, rfl, _, _⟩ := h
  rw [tl_S]; exact blank_ind
theorem TbZ.gMax {k : Nat} {l : Int} {z : Str} (h : TbZ k l z) (l0 : 0 ≤ l) : Pz.gMax z ≤ l := by
  obtain ⟨t, s, rfl, _, h2⟩ := h
  exact gMax_ind (fun x m => by rw [(List.mem_replicate.mp m).2]; exact l0) h2
theorem TbZ.len {k : Nat} {l : Int} {z : Str} (h : TbZ k l z) : (z.length : Int) ≤ k + l := by
  obtain ⟨t, s, rfl, h1, h2⟩ := h
  rw [SX.S_len, tb_lst, List.length_append, List.length_replicate, List.length_replicate]
  omega
theorem TbZ.mono {k k' : Nat} {l : Int} {z : Str} (h : TbZ k l z) (hk : k ≤ k') : TbZ k' l z := by
  obtain ⟨t, s, e, h1, h2⟩ := h
  exact ⟨t, s, e, by omega, h2⟩
theorem TbZ.sp {k : Nat} {l : Int} {t s : Nat} (h : t ≤ k) (hs : (s : Int) < l) : TbZ k l (SX.S (indL (List.replicate t 0) s) ++ Str.ofString " ") :=
  ⟨t, s + 1, by rw [show Str.ofString " " = SX.S [32] by decide +kernel, SX.S_cat, tb_lst, tb_lst, List.append_assoc, List.replicate_succ']; , h, by omega⟩
end Pz
set_option maxRecDepth 100000
namespace Pz
open PySem PySem.Spec PyProof.Rows L2 TL
variable [PenC]
def dgB (c : Nat) : Bool := decide (c ∈ ([48, 49, 50, 51, 52, 53, 54, 55, 56, 57] : List Nat))
theorem dgB_iff {c : Nat} : dgB c = true ↔ 48 ≤ c ∧ c ≤ 57 := by
  unfold dgB
  simp only [decide_eq_true_eq, List.mem_cons, List.not_mem_nil, or_false]
  omega
def nmQ (c z o : Nat) : Option Nat := if dgB c = true then some (if c = 48 then z else o) else none
def nxQ (s c : Nat) : Option Nat :=
  if s = 0 ∨ s = 2 then (if s = 0 ∧ c = 45 then some 1 else nmQ c 4 5)
  else if s = 3 then nmQ c 6 7
  else if (s = 5 ∨ s = 7) ∧ dgB c = true then some s
  else if (s = 1 ∨ s = 4 ∨ s = 5) ∧ c = 43 then some 3
  else if (s = 4 ∨ s = 5) ∧ c = 46 then some 2 else none
def ffG : Nat → Nat → List Nat → Option Nat
  | s, a, [] => if s = 6 ∨ s = 7 then none else some a
  | s, a, c :: l => match nxQ s c with
    | none => some a
    | some t => ffG t (a + 1) l
def ffQ (l : List Nat) : Option Nat := ffG 0 0 l
def shQ (rs : List Nat) (t : Nat) : List Nat := (if rs = [] then [45] else TL.joinL [46] (rs.map numL)) ++ 43 :: numL t
theorem numL_zero : numL 0 = [48] := numL_lt (by decide)
theorem numL_head : ∀ {n : Nat}, 0 < n → ∃ c r, numL n = c :: r ∧ 49 ≤ c ∧ c ≤ 57 ∧ NumText.AllDigits r
  | n, h => by
    by_cases h10 : n < 10
    · rw [numL_lt h10]
      exact ⟨48 + n, [], rfl, by omega, by omega, fun c m => by cases m⟩
    · have hlt : n / 10 < n := Nat.div_lt_self h (by decide)
      obtain ⟨c, r, e, h1, h2, h3⟩ := numL_head (n := n / 10) (by omega)
      rw [numL_step (by omega), e]
      refine ⟨c, r ++ [48 + n % 10], rfl, h1, h2, fun d m => ?_⟩
      rcases List.mem_append.mp m with m | m
      · exact h3 d m
      · have := Nat.mod_lt n (show 10 > 0 by decide)
        rw [List.mem_singleton.mp m]; omega
  termination_by n => n
def IsNm (w : List Nat) : Prop := w = [48] ∨ ∃ c r, w = c :: r ∧ 49 ≤ c ∧ c ≤ 57 ∧ NumText.AllDigits r
theorem val_snoc {l : List Nat} {c : Nat} : NumText.digitsVal (l ++ [c]) = NumText.digitsVal l * 10 + (c - 48) := by
  unfold NumText.digitsVal
  rw [List.foldl_append]; rfl
theorem val_pos {c : Nat} {r : List Nat} (h : 49 ≤ c) : 0 < NumText.digitsVal (c :: r) := by
  have key : ∀ (l : List Nat) (a : Nat), 0 < a → 0 < l.foldl (fun acc c => acc * 10 + (c - 48)) a := fun l => by
    induction l with
    | nil => intro a h; exact h
    | cons d l ih => intro a h; exact ih _ (by show 0 < a * 10 + (d - 48); omega)
  unfold NumText.digitsVal
  rw [List.foldl_cons]
  exact key r _ (by show 0 < 0 * 10 + (c - 48); omega)
theorem num_back : ∀ (k : Nat) (w : List Nat), w.length = k → IsNm w → numL (NumText.digitsVal w) = w
  | 0, w, hk, h => by
    obtain rfl := List.length_eq_zero_iff.mp hk
    rcases h with h | ⟨c, r, h, _⟩ <;> cases h
  | k + 1, w, hk, h => by
    rcases h with rfl | ⟨c, r, rfl, h1, h2, h3⟩
    · exact numL_zero
    · cases hr : r with
      | nil =>
        have e : NumText.digitsVal [c] = c - 48 := by show 0 * 10 + (c - 48) = _; omega
        rw [e, numL_lt (by omega)]
        congr 1; omega
      | cons d l =>
        obtain ⟨a, x, e⟩ : ∃ a x, r = a ++ [x] := ⟨_, _, (List.dropLast_concat_getLast (by rw [hr]; simp)).symm⟩
        rw [← hr, e, ← List.cons_append, val_snoc]
        have hx := h3 x (by rw [e]; simp)
        have hp := val_pos (c := c) (r := a) h1
        have hlen : (c :: a).length = k := by
          rw [e] at hk; simp at hk ⊢; omega
        have ih := num_back k (c :: a) hlen (.inr ⟨c, a, rfl, h1, h2, fun d m => h3 d (by rw [e]; simp [m])⟩)
        rw [numL_step (by omega)]
        have e1 : (NumText.digitsVal (c :: a) * 10 + (x - 48)) / 10 = NumText.digitsVal (c :: a) := by omega
        have e2 : 48 + (NumText.digitsVal (c :: a) * 10 + (x - 48)) % 10 = x := by omega
        rw [e1, e2, ih]
theorem IsNm.num {w : List Nat} (h : IsNm w) : ∃ n, w = numL n := ⟨_, (num_back _ w rfl h).symm⟩
theorem run_dig {s : Nat} (hs : s = 5 ∨ s = 7) : ∀ (w : List Nat) (a : Nat) (l : List Nat), NumText.AllDigits w → ffG s a (w ++ l) = ffG s (a + w.length) l
  | [], a, l, _ => rfl
  | c :: w, a, l, h => by
    have hc := h.head
    have e : nxQ s c = some s := by
      unfold nxQ
      rw [if_neg (by omega), if_neg (by omega), if_pos ⟨hs, dgB_iff.mpr hc⟩]
    rw [List.cons_append, ffG, e]
    dsimp only
    rw [run_dig hs w _ l h.tail, List.length_cons]
    congr 1; omega
theorem run_num {s z o : Nat} (hs : ∀ c, dgB c = true → nxQ s c = nmQ c z o) (ho : o = 5 ∨ o = 7) (n a : Nat) (l : List Nat) : ffG s a (numL n ++ l) = ffG (if n = 0 then z else o) (a + (numL n).length) l := by
  by_cases h : n = 0
  · subst h
    have d48 : dgB 48 = true := by decide
    rw [numL_zero, if_pos rfl, List.singleton_append, ffG, hs 48 d48]
    unfold nmQ
    rw [if_pos d48, if_pos rfl]
    rfl
  · obtain ⟨c, r, e, h1, h2, h3⟩ := numL_head (n := n) (by omega)
    have hd : dgB c = true := dgB_iff.mpr ⟨by omega, h2⟩
    rw [e, if_neg h, List.cons_append, ffG, hs c hd]
    unfold nmQ
    rw [if_pos hd, if_neg (by omega)]
    dsimp only
    rw [run_dig ho r _ l h3, List.length_cons]
    congr 1; omega
theorem nx_start {c : Nat} (h : dgB c = true) : nxQ 0 c = nmQ c 4 5 := by
  have := dgB_iff.mp h
  unfold nxQ
  rw [if_pos (.inl rfl), if_neg (by omega)]
theorem nx_point {c : Nat} (h : dgB c = true) : nxQ 2 c = nmQ c 4 5 := by
  unfold nxQ
  rw [if_pos (.inr rfl), if_neg (by omega)]
theorem nx_plus {c : Nat} (h : dgB c = true) : nxQ 3 c = nmQ c 6 7 := by
  unfold nxQ
  rw [if_neg (by omega), if_pos rfl]
theorem nx_43 {s : Nat} (h : s = 1 ∨ s = 4 ∨ s = 5) : nxQ s 43 = some 3 := by
  unfold nxQ
  have : dgB 43 = false := by decide
  rw [if_neg (by omega), if_neg (by omega), if_neg (by rw [this]; simp), if_pos ⟨h, rfl⟩]
theorem nx_46 {s : Nat} (h : s = 4 ∨ s = 5) : nxQ s 46 = some 2 := by
  unfold nxQ
  have : dgB 46 = false := by decide
  rw [if_neg (by omega), if_neg (by omega), if_neg (by rw [this]; simp), if_neg (by omega), if_pos ⟨h, rfl⟩]
theorem run_tail (n a : Nat) : ffG 3 a (numL n) = none := by
  have := run_num (s := 3) (z := 6) (o := 7) (fun c => nx_plus) (.inr rfl) n a []
  rw [List.append_nil] at this
  rw [this, ffG, if_pos (by split <;> simp)]
def resQ (rs : List Nat) (t : Nat) : List Nat := (rs.flatMap fun r => 46 :: numL r) ++ 43 :: numL t
theorem run_rest (t : Nat) : ∀ (rs : List Nat) (s a : Nat), s = 4 ∨ s = 5 → ffG s a (resQ rs t) = none
  | [], s, a, h => by
    show ffG s a (43 :: numL t) = none
    rw [ffG, nx_43 (.inr h)]
    exact run_tail t _
  | r :: rs, s, a, h => by
    have e : resQ (r :: rs) t = 46 :: (numL r ++ resQ rs t) := by unfold resQ; simp
    rw [e, ffG, nx_46 h]
    dsimp only
    rw [run_num (fun c => nx_point) (.inl rfl) r _ (resQ rs t)]
    exact run_rest t rs _ _ (by split <;> simp)
theorem joinL_flat {r : Nat} : ∀ {rs : List Nat}, TL.joinL [46] ((r :: rs).map numL) = numL r ++ (rs.flatMap fun r => 46 :: numL r)
  | [] => by simp [TL.joinL]
  | q :: rs => by
    rw [List.map_cons, List.map_cons, show TL.joinL [46] (numL r :: numL q :: rs.map numL) = numL r ++ ([46] ++ TL.joinL [46] (numL q :: rs.map numL)) by simp [TL.joinL], ← List.map_cons, joinL_flat]
    simp
theorem shQ_cons {r t : Nat} {rs : List Nat} : shQ (r :: rs) t = numL r ++ resQ rs t := by
  unfold shQ resQ
  rw [if_neg (by simp), joinL_flat, List.append_assoc]
theorem ff_sh (rs : List Nat) (t : Nat) : ffQ (shQ rs t) = none := by
  unfold ffQ
  cases rs with
  | nil =>
    show ffG 0 0 (45 :: 43 :: numL t) = none
    have e : nxQ 0 45 = some 1 := by decide
    rw [ffG, e]
    dsimp only
    rw [ffG, nx_43 (.inl rfl)]
    exact run_tail t _
  | cons r rs =>
    rw [shQ_cons, run_num (fun c => nx_start) (.inl rfl) r 0 (resQ rs t)]
    exact run_rest t rs _ _ (by split <;> simp)
theorem acc_tail : ∀ (l : List Nat) (a : Nat), (ffG 6 a l = none → l = []) ∧ (ffG 7 a l = none → NumText.AllDigits l)
  | [], a => ⟨fun _ => rfl, fun _ c m => by cases m⟩
  | c :: l, a => by
    constructor
    · intro h
      have e : nxQ 6 c = none := by
        unfold nxQ
        rw [if_neg (by omega), if_neg (by omega), if_neg (by omega), if_neg (by omega), if_neg (by omega)]
      rw [ffG, e] at h
      cases h
    · intro h
      by_cases hd : dgB c = true
      · have e : nxQ 7 c = some 7 := by
          unfold nxQ
          rw [if_neg (by omega), if_neg (by omega), if_pos ⟨.inr rfl, hd⟩]
        rw [ffG, e] at h
        have := (acc_tail l (a + 1)).2 h
        intro d m
        rcases List.mem_cons.mp m with rfl | m
        · exact dgB_iff.mp hd
        · exact this d m
      · have e : nxQ 7 c = none := by
          unfold nxQ
          rw [if_neg (by omega), if_neg (by omega), if_neg (fun z => hd z.2), if_neg (by omega), if_neg (by omega)]
        rw [ffG, e] at h
        cases h
theorem nm_of {c : Nat} {l : List Nat} (hd : dgB c = true) (h1 : c = 48 → l = []) (h2 : c ≠ 48 → NumText.AllDigits l) : IsNm (c :: l) := by
  by_cases h : c = 48
  · rw [h1 h, h]; exact .inl rfl
  · have := dgB_iff.mp hd
    exact .inr ⟨c, l, rfl, by omega, this.2, h2 h⟩
theorem acc_plus {l : List Nat} {a : Nat} (h : ffG 3 a l = none) : ∃ t, l = numL t := by
  cases l with
  | nil => rw [ffG, if_neg (by decide)] at h; cases h
  | cons c l =>
    by_cases hd : dgB c = true
    · rw [ffG, nx_plus hd] at h
      unfold nmQ at h
      rw [if_pos hd] at h
      dsimp only at h
      refine IsNm.num (nm_of hd (fun e => ?_) fun e => ?_)
      · rw [if_pos e] at h; exact (acc_tail l _).1 h
      · rw [if_neg e] at h; exact (acc_tail l _).2 h
    · have e : nxQ 3 c = none := by
        unfold nxQ nmQ
        rw [if_neg (by omega), if_pos rfl, if_neg hd]
      rw [ffG, e] at h
      cases h
theorem acc_run : ∀ (k : Nat) (l : List Nat), l.length ≤ k →
    (∀ a, ffG 4 a l = none → ∃ rs t, l = resQ rs t) ∧ (∀ a, ffG 5 a l = none → ∃ w rs t, NumText.AllDigits w ∧ l = w ++ resQ rs t) ∧ (∀ a, ffG 2 a l = none → ∃ r rs t, l = numL r ++ resQ rs t)
  | _, [], _ => by
    refine ⟨fun a h => ?_, fun a h => ?_, fun a h => ?_⟩ <;> (rw [ffG, if_neg (by decide)] at h; cases h)
  | 0, c :: l, h => by simp at h
  | k + 1, c :: l, hk => by
    have hk' : l.length ≤ k := by simpa using hk
    obtain ⟨i4, i5, i2⟩ := acc_run k l hk'
    have hp : c = 43 → ∀ a, ffG 3 a l = none → ∃ rs t, c :: l = resQ rs t := fun e a h => by
      obtain ⟨t, rfl⟩ := acc_plus h
      exact ⟨[], t, by rw [e]; rfl⟩
    have hq : c = 46 → ∀ a, ffG 2 a l = none → ∃ rs t, c :: l = resQ rs t := fun e a h => by
      obtain ⟨r, rs, t, rfl⟩ := i2 a h
      exact ⟨r :: rs, t, by rw [e]; unfold resQ; simp⟩
    refine ⟨fun a h => ?_, fun a h => ?_, fun a h => ?_⟩
    · by_cases h43 : c = 43
      · rw [ffG, h43, nx_43 (by simp)] at h
        exact hp h43 _ h
      by_cases h46 : c = 46
      · rw [ffG, h46, nx_46 (by simp)] at h
        exact hq h46 _ h
      have e : nxQ 4 c = none := by
        unfold nxQ
        rw [if_neg (by omega), if_neg (by omega), if_neg (by omega), if_neg (fun z => h43 z.2), if_neg (fun z => h46 z.2)]
      rw [ffG, e] at h
      cases h
    · by_cases hd : dgB c = true
      · have e : nxQ 5 c = some 5 := by
          unfold nxQ
          rw [if_neg (by omega), if_neg (by omega), if_pos ⟨.inl rfl, hd⟩]
        rw [ffG, e] at h
        obtain ⟨w, rs, t, hw, rfl⟩ := i5 _ h
        refine ⟨c :: w, rs, t, fun d m => ?_, rfl⟩
        rcases List.mem_cons.mp m with rfl | m
        · exact dgB_iff.mp hd
        · exact hw d m
      by_cases h43 : c = 43
      · rw [ffG, h43, nx_43 (by simp)] at h
        obtain ⟨rs, t, e⟩ := hp h43 _ h
        exact ⟨[], rs, t, (fun c m => by cases m), e⟩
      by_cases h46 : c = 46
      · rw [ffG, h46, nx_46 (by simp)] at h
        obtain ⟨rs, t, e⟩ := hq h46 _ h
        exact ⟨[], rs, t, (fun c m => by cases m), e⟩
      have e : nxQ 5 c = none := by
        unfold nxQ
        rw [if_neg (by omega), if_neg (by omega), if_neg (fun z => hd z.2), if_neg (fun z => h43 z.2), if_neg (fun z => h46 z.2)]
      rw [ffG, e] at h
      cases h
    · by_cases hd : dgB c = true
      · rw [ffG, nx_point hd] at h
        unfold nmQ at h
        rw [if_pos hd] at h
        dsimp only at h
        by_cases h48 : c = 48
        · rw [if_pos h48] at h
          obtain ⟨rs, t, rfl⟩ := i4 _ h
          exact ⟨0, rs, t, by rw [numL_zero, h48]; rfl⟩
        · rw [if_neg h48] at h
          obtain ⟨w, rs, t, hw, rfl⟩ := i5 _ h
          obtain ⟨n, hn⟩ := IsNm.num (nm_of (l := w) hd (fun e => absurd e h48) fun _ => hw)
          exact ⟨n, rs, t, by rw [← hn]; rfl⟩
      · have e : nxQ 2 c = none := by
          unfold nxQ nmQ
          rw [if_pos (.inr rfl), if_neg (by omega), if_neg hd]
        rw [ffG, e] at h
        cases h
theorem sh_of {l : List Nat} (h : ffQ l = none) : ∃ rs t, l = shQ rs t := by
  unfold ffQ at h
  cases l with
  | nil => rw [ffG, if_neg (by decide)] at h; cases h
  | cons c l =>
    by_cases h45 : c = 45
    · have e : nxQ 0 c = some 1 := by rw [h45]; decide
      rw [ffG, e] at h
      dsimp only at h
      cases l with
      | nil => rw [ffG, if_neg (by decide)] at h; cases h
      | cons d l =>
        by_cases h43 : d = 43
        · rw [ffG, h43, nx_43 (.inl rfl)] at h
          obtain ⟨t, rfl⟩ := acc_plus h
          exact ⟨[], t, by rw [h45, h43]; rfl⟩
        · have e : nxQ 1 d = none := by
            unfold nxQ
            rw [if_neg (by omega), if_neg (by omega), if_neg (by omega), if_neg (fun z => h43 z.2), if_neg (by omega)]
          rw [ffG, e] at h
          cases h
    · by_cases hd : dgB c = true
      · have e : ffG 2 0 (c :: l) = none := by
          rw [ffG, nx_point hd]
          rw [ffG, nx_start hd] at h
          exact h
        obtain ⟨r, rs, t, e⟩ := (acc_run _ (c :: l) (Nat.le_refl _)).2.2 0 e
        exact ⟨r :: rs, t, by rw [e, shQ_cons]⟩
      · have e : nxQ 0 c = none := by
          unfold nxQ nmQ
          rw [if_pos (.inl rfl), if_neg (fun z => h45 z.2), if_neg hd]
        rw [ffG, e] at h
        cases h
def hdQ (rs : List Nat) : List Nat := if rs = [] then [45] else TL.joinL [46] (rs.map numL)
theorem shQ_hd (rs : List Nat) (t : Nat) : shQ rs t = hdQ rs ++ 43 :: numL t := rfl
theorem numL_not {n c : Nat} (h : c < 48 ∨ 57 < c) : c ∉ numL n := numL_free h
theorem hdQ_43 {rs : List Nat} : 43 ∉ hdQ rs := fun m => by
  unfold hdQ at m
  split at m
  · simp at m
  · rcases joinL_mem m with h | ⟨p, mp, h⟩
    · simp at h
    · obtain ⟨r, _, rfl⟩ := List.mem_map.mp mp
      exact numL_not (by omega) h
theorem split_sh (rs : List Nat) (t : Nat) : Txt.split (SX.S (shQ rs t)) (Str.ofString "+") = [SX.S (hdQ rs), SX.S (numL t)] := by
  have e : Str.ofString "+" = SX.S [43] := by decide +kernel
  have ej : Txt.join (SX.S [43]) ([hdQ rs, numL t].map SX.S) = SX.S (shQ rs t) := by
    rw [SX.join_S, shQ_hd]
    congr 1
  rw [e, ← ej]
  refine TL.split_join (s := 43) (S := []) (tl_S ..) (by decide +kernel) (by simp) fun p m => ?_
  rcases List.mem_map.mp m with ⟨l, ml, rfl⟩
  rw [show tl (SX.S l) = l from tl_S ..]
  simp only [List.mem_cons, List.not_mem_nil, or_false] at ml
  rcases ml with rfl | rfl
  · exact hdQ_43
  · exact numL_not (by omega)
theorem split_hd {rs : List Nat} (h : rs ≠ []) : Txt.split (SX.S (hdQ rs)) (Str.ofString ".") = (rs.map numL).map SX.S := by
  have e : Str.ofString "." = SX.S [46] := by decide +kernel
  have ej : Txt.join (SX.S [46]) ((rs.map numL).map SX.S) = SX.S (hdQ rs) := by
    rw [SX.join_S]
    unfold hdQ
    rw [if_neg h]
  rw [e, ← ej]
  refine TL.split_join (s := 46) (S := []) (tl_S ..) (by decide +kernel) (by simpa using h) fun p m => ?_
  rcases List.mem_map.mp m with ⟨l, ml, rfl⟩
  rw [show tl (SX.S l) = l from tl_S ..]
  obtain ⟨r, _, rfl⟩ := List.mem_map.mp ml
  exact numL_not (by omega)
theorem S_inj {a b : List Nat} (h : SX.S a = SX.S b) : a = b := by
  have := congrArg tl h
  rwa [show tl (SX.S a) = a from tl_S .., show tl (SX.S b) = b from tl_S ..] at this
theorem mapS_inj : ∀ {a b : List Nat}, a.map (SX.S ∘ numL) = b.map (SX.S ∘ numL) → a = b
  | [], [], _ => rfl
  | [], _ :: _, h => by cases h
  | _ :: _, [], h => by cases h
  | x :: a, y :: b, h => by
    rw [List.map_cons, List.map_cons, List.cons.injEq] at h
    rw [numL_inj (S_inj h.1), mapS_inj h.2]
theorem hdQ_inj {rs rs' : List Nat} (h : hdQ rs = hdQ rs') : rs = rs' := by
  have key : ∀ {q : List Nat}, q ≠ [] → hdQ q ≠ [45] := fun {q} hq e => by
    cases q with
    | nil => exact hq rfl
    | cons r q =>
      unfold hdQ at e
      rw [if_neg (by simp), joinL_flat] at e
      have : 45 ∈ numL r ++ (q.flatMap fun r => 46 :: numL r) := by rw [e]; simp
      have hne := numL_ne r
      obtain ⟨c, l, ec⟩ : ∃ c l, numL r = c :: l := by
        cases hr : numL r with
        | nil => exact absurd hr hne
        | cons c l => exact ⟨c, l, rfl⟩
      have hc := numL_digits r c (by rw [ec]; simp)
      rw [ec, List.cons_append, List.cons.injEq] at e
      omega
  by_cases h1 : rs = []
  · by_cases h2 : rs' = []
    · rw [h1, h2]
    · subst h1
      exact absurd h.symm (key h2)
  · by_cases h2 : rs' = []
    · subst h2
      exact absurd h (key h1)
    · have e := (split_hd h1).symm.trans ((congrArg (fun l => Txt.split (SX.S l) (Str.ofString ".")) h).trans (split_hd h2))
      rw [List.map_map, List.map_map] at e
      exact mapS_inj e
theorem shQ_inj {rs rs' : List Nat} {t t' : Nat} (h : shQ rs t = shQ rs' t') : rs = rs' ∧ t = t' := by
  have e := (split_sh rs t).symm.trans ((congrArg (fun l => Txt.split (SX.S l) (Str.ofString "+")) h).trans (split_sh rs' t'))
  simp only [List.cons.injEq, and_true] at e
  exact ⟨hdQ_inj (S_inj e.1), numL_inj (S_inj e.2)⟩
open Classical in
noncomputable def unQ (l : List Nat) : List Nat × Nat := if h : ∃ p : List Nat × Nat, l = shQ p.1 p.2 then Classical.choose h else ([], 0)
theorem unQ_sh (rs : List Nat) (t : Nat) : unQ (shQ rs t) = (rs, t) := by
  have h : ∃ p : List Nat × Nat, shQ rs t = shQ p.1 p.2 := ⟨(rs, t), rfl⟩
  unfold unQ
  rw [dif_pos h]
  obtain ⟨e1, e2⟩ := shQ_inj (Classical.choose_spec h)
  exact Prod.ext e1.symm e2.symm
noncomputable def pnA (d : PyData) : Ans := match d with
  | .str z => match ffQ (tl z) with
    | some i => .err "InvalidNotation" [("at", .int (i : Nat))]
    | none => if 1000 < (unQ (tl z)).1.sum + (unQ (tl z)).1.length + (unQ (tl z)).2 then .err "TooLong" [("length", .int (((unQ (tl z)).1.sum + (unQ (tl z)).1.length + (unQ (tl z)).2 : Nat) : Int))]
      else .ok (.str (SX.S (indL (unQ (tl z)).1 (unQ (tl z)).2)))
  | _ => .err "InvalidNotation" [("at", .int 0)]
theorem pn_sh {rs : List Nat} {t : Nat} : pnA (.str (SX.S (shQ rs t))) = if 1000 < rs.sum + rs.length + t then .err "TooLong" [("length", .int ((rs.sum + rs.length + t : Nat) : Int))] else .ok (.str (SX.S (indL rs t))) := by
  unfold pnA
  dsimp only
  rw [show tl (SX.S (shQ rs t)) = shQ rs t from tl_S .., ff_sh, unQ_sh]
theorem int_numS {n : Nat} (h : (numL n).length ≤ 640) : PySem.intText? (SX.S (numL n)) = some (n : Int) := by
  have e := TL.int_num (n := n) (by omega)
  rwa [← shown_int, nmS] at e
def stN : Nat → Str
  | 0 => "start"
  | 1 => "bare"
  | 2 => "point"
  | 3 => "plus"
  | 4 => "zero run"
  | 5 => "run"
  | 6 => "zero tail"
  | _ => "tail"
def stC (z : Str) : Nat := if z = stN 0 then 0 else if z = stN 1 then 1 else if z = stN 2 then 2 else if z = stN 3 then 3 else if z = stN 4 then 4 else if z = stN 5 then 5 else if z = stN 6 then 6 else 7
theorem stC_N : ∀ s, s < 8 → stC (stN s) = s := by decide +kernel
def ntD (o : Option Nat) : PyData := match o with
  | none => .none
  | some s => .str (stN s)
def atD (o : Option Nat) : PyData := match o with
  | none => .none
  | some s => .int (s : Nat)
theorem nxQ_lt {s c t : Nat} (h : nxQ s c = some t) (hs : s < 8) : t < 8 := by
  have key : ∀ {z o : Nat}, z < 8 → o < 8 → nmQ c z o = some t → t < 8 := fun {z o} hz ho e => by
    unfold nmQ at e
    split at e
    · cases e; split <;> assumption
    · cases e
  unfold nxQ at h
  split at h
  · split at h
    · cases h; omega
    · exact key (by omega) (by omega) h
  · split at h
    · exact key (by omega) (by omega) h
    · split at h
      · cases h; exact hs
      · split at h
        · cases h; omega
        · split at h
          · cases h; omega
          · cases h
theorem in_sp : ∀ i, i < 8 → (([PyData.str (Str.ofString "start"), .str (Str.ofString "point")].any fun z => z.eqv (.str (stN i))) = decide (i = 0 ∨ i = 2)) := by decide +kernel
theorem in_rt : ∀ i, i < 8 → (([PyData.str (Str.ofString "run"), .str (Str.ofString "tail")].any fun z => z.eqv (.str (stN i))) = decide (i = 5 ∨ i = 7)) := by decide +kernel
theorem in_bzr : ∀ i, i < 8 → (([PyData.str (Str.ofString "bare"), .str (Str.ofString "zero run"), .str (Str.ofString "run")].any fun z => z.eqv (.str (stN i))) = decide (i = 1 ∨ i = 4 ∨ i = 5)) := by decide +kernel
theorem in_zr : ∀ i, i < 8 → (([PyData.str (Str.ofString "zero run"), .str (Str.ofString "run")].any fun z => z.eqv (.str (stN i))) = decide (i = 4 ∨ i = 5)) := by decide +kernel
theorem in_fin : ∀ i, i < 8 → (([PyData.str (Str.ofString "zero tail"), .str (Str.ofString "tail")].any fun z => z.eqv (.str (stN i))) = decide (i = 6 ∨ i = 7)) := by decide +kernel
theorem eq_st : ∀ i, i < 8 → PyData.eqv (.str (stN i)) (.str (Str.ofString "start")) = decide (i = 0) := by decide +kernel
theorem eq_pl : ∀ i, i < 8 → PyData.eqv (.str (stN i)) (.str (Str.ofString "plus")) = decide (i = 3) := by decide +kernel
theorem stN_ok : ∀ i, i < 8 → PyData.strOk (stN i) = true := by decide +kernel
theorem ch_eqv {c k : Nat} {s : String} (e : Str.ofString s = SX.S [k]) : PyData.eqv (.str ⟨#[c]⟩) (.str (Str.ofString s)) = decide (c = k) := by
  rw [e, show (⟨#[c]⟩ : Str) = SX.S [c] from rfl, eqv_str]
  by_cases h : c = k
  · rw [h, decide_eq_true rfl, decide_eq_true rfl]
  · rw [decide_eq_false h, decide_eq_false fun z => h (by have := S_inj z; simpa using this)]
theorem dg_in {c : Nat} : decide (c ∈ tl (Str.ofString "0123456789")) = dgB c := by
  rw [show tl (Str.ofString "0123456789") = [48, 49, 50, 51, 52, 53, 54, 55, 56, 57] by decide +kernel]
  rfl
theorem stNames : Str.ofString "zero run" = stN 4 ∧ Str.ofString "run" = stN 5 ∧ Str.ofString "zero tail" = stN 6 ∧ Str.ofString "tail" = stN 7 ∧ Str.ofString "bare" = stN 1 ∧ Str.ofString "plus" = stN 3 ∧ Str.ofString "point" = stN 2 ∧ Str.ofString "start" = stN 0 := ⟨rfl, rfl, rfl, rfl, rfl, rfl, rfl, rfl⟩
theorem dg_mem {c : Nat} : c ∈ tl (Str.ofString "0123456789") ↔ dgB c = true := by rw [← dg_in]; simp
theorem joinL_ge {sep : List Nat} : ∀ {l : List (List Nat)}, (∀ x ∈ l, x ≠ []) → l.length ≤ (TL.joinL sep l).length
  | [], _ => Nat.zero_le _
  | [p], h => by
    have := List.length_pos_iff.mpr (h p List.mem_cons_self)
    simp [TL.joinL]; omega
  | p :: q :: r, h => by
    have h1 := List.length_pos_iff.mpr (h p List.mem_cons_self)
    have := joinL_ge (sep := sep) (l := q :: r) fun x m => h x (List.mem_cons_of_mem _ m)
    rw [show TL.joinL sep (p :: q :: r) = p ++ (sep ++ TL.joinL sep (q :: r)) by simp [TL.joinL], List.length_append, List.length_append, List.length_cons]
    omega
theorem hdQ_ge {rs : List Nat} : rs.length ≤ (hdQ rs).length := by
  unfold hdQ
  split
  · next h => subst h; exact Nat.zero_le _
  · have := joinL_ge (sep := [46]) (l := rs.map numL) (fun x m => by obtain ⟨r, _, rfl⟩ := List.mem_map.mp m; exact numL_ne r)
    rwa [List.length_map] at this
theorem sum_cast : ∀ rs : List Nat, (rs.map fun n : Nat => (n : Int)).sum = ((rs.sum : Nat) : Int)
  | [] => rfl
  | r :: rs => by rw [List.map_cons, List.sum_cons, List.sum_cons, sum_cast rs]; omega
end Pz
set_option maxRecDepth 100000
namespace Pz
open PySem PySem.Spec PyProof.Rows L2 TL
variable [PenC]
def wcE (c : Nat) : Bool := decide (c < 128) && decide (c ≠ 10) && decide (c ≠ 35) && decide (stp c = 0)
structure WdE (l : List Nat) : Prop where
  len : l.length ≤ 5
  hd : ∃ c r, l = c :: r ∧ blC c = false
  all : ∀ c ∈ l, wcE c = true
def RwE (r : List Nat) : Prop := r.length ≤ 16 ∧ ∀ c ∈ r, c < 128 ∧ c ≠ 10
structure EnE (E : List (List Nat)) : Prop where
  rows : ∀ r ∈ E, RwE r
  len : E.length ≤ 5
  name : nameB (TL.joinL [10] E) = true
  ne : E ≠ []
  rl : rowsL (TL.joinL [10] E) = E
structure PcE (x : Pcs) : Prop where
  pc : Pc x.1 x.2
  len : x.1.length ≤ 100
  chr : ∀ c ∈ x.1, c < 128
  e1 : x.2.length ≤ 1
  el : ∀ y ∈ x.2, y.1.length ≤ 100 ∧ y.2.length ≤ 100 ∧ (∀ c ∈ y.1, c < 128) ∧ ∀ c ∈ y.2, c < 128
  w : PcW x
theorem pgE_mem {ps : List Pcs} {n : Nat} {l : Ln} (m : l ∈ pgE n ps) : ∃ x ∈ ps, l.2 ∈ x.2 := by
  have : l.2 ∈ (pgE n ps).map fun x => x.2 := List.mem_map_of_mem m
  rw [pgE_snd] at this
  exact List.mem_flatMap.mp this
theorem pgE_lt : ∀ (ps : List Pcs) (n B : Nat), (∀ x ∈ ps, (rowsL x.1).length ≤ B ∧ 0 < (rowsL x.1).length) → ∀ l ∈ pgE n ps, l.1 < n + B * ps.length
  | [], _, _, _, l, m => by cases m
  | (p, e) :: ps, n, B, h, l, m => by
    have h1 := h (p, e) List.mem_cons_self
    rw [List.length_cons, Nat.mul_succ]
    rw [pgE] at m
    rcases List.mem_append.mp m with m | m
    · obtain ⟨x, _, rfl⟩ := List.mem_map.mp m
      have : B * ps.length ≥ 0 := Nat.zero_le _
      dsimp only at h1 ⊢
      omega
    · have := pgE_lt ps _ B (fun x m => h x (List.mem_cons_of_mem _ m)) l m
      dsimp only at h1
      omega
theorem rowsL_le (p : List Nat) : (rowsL p).length ≤ p.length + 1 ∧ 0 < (rowsL p).length := by
  have := rowsL_len p
  exact ⟨by omega, by cases e : rowsL p with
    | nil => exact absurd e (rowsA_ne0 p [])
    | cons x xs => simp⟩
structure SrcE (ps : List Pcs) : Prop where
  all : ∀ x ∈ ps, PcE x
  len : ps.length ≤ 90
  num : (ps.flatMap fun x => x.2).length ≤ 20
theorem SrcE.rep {ps : List Pcs} (h : SrcE ps) (n : Nat) (hn : n ≤ 1) : RepP 60000 2 (.list ((pgE n ps).map lnD)) := by
  have hl : (pgE n ps).length ≤ 20 := by
    have := congrArg List.length (pgE_snd ps n)
    rw [List.length_map] at this
    have := h.num
    omega
  have h1 : RepL ((2600 + 2) * ((pgE n ps).map lnD).length) 1 ((pgE n ps).map lnD) := RepL.all fun d m => by
    obtain ⟨l, ml, rfl⟩ := List.mem_map.mp m
    obtain ⟨x, mx, ly⟩ := pgE_mem ml
    obtain ⟨g1, g2, g3, g4⟩ := (h.all x mx).el _ ly
    have hlt := pgE_lt ps n 101 (fun x m => by have := (h.all x m).len; have := rowsL_le x.1; omega) l ml
    have := h.len
    have h10 : (10 : Nat) ^ 100 > 100000 := by decide +kernel
    have r1 := rp_s (z := SX.S l.2.1) (strOk_asc g3)
    have r2 := rp_s (z := SX.S l.2.2) (strOk_asc g4)
    rw [SX.S_len] at r1 r2
    exact ((RepL.cons (rp_i (i := ((l.1 : Nat) : Int)) (by rw [Int.natAbs_natCast]; omega)) (RepL.cons r1 (RepL.cons r2 RepL.nil))).tup).mono (by omega) (by decide)
  rw [List.length_map] at h1
  exact h1.lst.mono (by have := Nat.mul_le_mul_left 2602 hl; omega) (by decide)
theorem SrcE.log {ps : List Pcs} (h : SrcE ps) : logL (TL.joinL [10] (ps.map fun x => x.1)) = .ok (pgE 0 ps) := page_ok (fun x m => (h.all x m).pc) h.num
theorem SrcE.str {ps : List Pcs} (h : SrcE ps) : (TL.joinL [10] (ps.map fun x => x.1)).length ≤ 10000 ∧ PyData.strOk (SX.S (TL.joinL [10] (ps.map fun x => x.1))) = true := by
  constructor
  · have := joinL_lenG (sep := [10]) (B := 100) (l := ps.map fun x => x.1) fun x m => by
      obtain ⟨y, my, rfl⟩ := List.mem_map.mp m
      exact (h.all y my).len
    rw [List.length_map] at this
    have h2 : (100 + ([10] : List Nat).length) * ps.length ≤ 101 * 90 := Nat.mul_le_mul_left 101 h.len
    omega
  · refine strOk_asc fun c m => ?_
    rcases joinL_mem m with m | ⟨p, mp, m⟩
    · rw [List.mem_singleton.mp m]; decide
    · obtain ⟨y, my, rfl⟩ := List.mem_map.mp mp
      exact (h.all y my).chr c m
def alE : Str := Str.ofString "!\"$&'*+,-./0123456789:;<=>?@ABCDEFGHIJKLMNOPQRSTUVWXYZ\\^_`abcdefghijklmnopqrstuvwxyz|~"
def AsE (B : Nat) (l : List Nat) : Prop := l.length ≤ B ∧ ∀ c ∈ l, c < 128 ∧ c ≠ 10
instance {B : Nat} {l : List Nat} : Decidable (AsE B l) := inferInstanceAs (Decidable (_ ∧ _))
theorem AsE.app {A B C : Nat} {k l : List Nat} (h : AsE A k) (h2 : AsE B l) (hC : A + B ≤ C) : AsE C (k ++ l) :=
  ⟨by rw [List.length_append]; have := h.1; have := h2.1; omega, fun c m => (List.mem_append.mp m).elim (h.2 c) (h2.2 c)⟩
theorem WdE.as {l : List Nat} (h : WdE l) : AsE 5 l := ⟨h.len, fun c m => by
  have := h.all c m
  unfold wcE at this
  simp only [Bool.and_eq_true, decide_eq_true_eq] at this
  exact ⟨this.1.1.1, this.1.1.2⟩⟩
def RmE (l : List Nat) : Prop := AsE 6 l ∧ ∀ d : Int, 0 ≤ d → dpL (cdL l) d = some d
def MdE (l : List Nat) : Prop := AsE 3 l ∧ ∀ (y : List Nat) (d : Int), 0 ≤ d → dpL (cdL (l ++ y)) d = dpL (cdL y) d
def KpE (l : List Nat) : Prop := RwE l ∧ ∀ d : Int, 0 ≤ d → dpL (cdL l) d = some d
theorem AsE.rw {B : Nat} {l : List Nat} (h : AsE B l) (hB : B ≤ 16) : RwE l := ⟨by have := h.1; omega, h.2⟩
def FiE (r : List Nat) : Prop := AsE 6 r ∧ bgL (rsL r) = false
def upD (d : PyData) : PyData := match d with
  | .tuple [.int n, x, y] => .tuple [.int (n + 1), x, y]
  | d => d
end Pz
set_option maxRecDepth 100000
namespace Pz
open PySem PySem.Spec PyProof.Rows L2 TL
variable [PenC]
def apZ (x : Bool) (w : Int) (z : Str) : List Nat := if x = true then indL [] (colZ w z).toNat else indL (List.replicate (colZ w z / w).toNat 0) (colZ w z % w).toNat
def cvB (x : Bool) (w i j : Int) : Int → List Str → List (List Nat)
  | _, [] => []
  | k, z :: r => (if i ≤ k ∧ k ≤ j then apZ x w z else tl z) :: cvB x w i j (k + 1) r
def isEx (o : Str) : Bool := decide (o = Str.ofString "expand")
def OpW (o : Str) : Prop := o = Str.ofString "expand" ∨ o = Str.ofString "collapse"
def cvF (o : Str) (w i j : Int) (d : PyData) : PyData := match d with
  | .tuple [.int k, .str z] => .str (SX.S (if i ≤ k ∧ k ≤ j then apZ (isEx o) w z else tl z))
  | d => d
def pgT (ps : List Pcs) (os : List (List Nat)) : List Nat := TL.joinL [10] ((subP ps os).map fun x => x.1)
theorem subP_sub : ∀ (ps : List Pcs) (os os' : List (List Nat)), (∀ x ∈ ps, PcW x) → (ps.flatMap fun x => x.2).length = os.length → os'.length = os.length → subP (subP ps os) os' = subP ps os'
  | [], os, os', _, h, h2 => by
    have e1 : os = [] := List.length_eq_zero_iff.mp (by simpa using h.symm)
    subst e1
    simp [subP]
  | (p, e) :: ps, os, os', hw, h, h2 => by
    have hw2 : ∀ x ∈ ps, PcW x := fun x m => hw x (List.mem_cons_of_mem _ m)
    rcases (hw (p, e) List.mem_cons_self).2 with he | ⟨l, w, he, hp, hl, hl2, hn⟩
    · dsimp only at he
      subst he
      rw [subP, subP, subP, subP_sub ps os os' hw2 (by simpa using h) h2]
    · dsimp only at he
      subst he
      cases os with
      | nil => simp at h
      | cons o os =>
        cases os' with
        | nil => simp at h2
        | cons o' os' =>
          rw [subP, subP, subP, subP_sub ps os os' hw2 (by simpa using h) (by simpa using h2)]
theorem conv_T {ps : List Pcs} {os os' : List (List Nat)} (hw : ∀ x ∈ ps, PcW x) (h : (ps.flatMap fun x => x.2).length = os.length) (h2 : os'.length = os.length) (hc : os.length ≤ 20) (ho : ∀ o ∈ os, blankL o ∧ o.length ≤ 1000) (ho' : ∀ o ∈ os', blankL o ∧ o.length ≤ 1000) :
    TL.joinL [10] (replL (rowsL (pgT ps os)) (lnS (pgT ps os)) os') = pgT ps os' := by
  obtain ⟨g1, g2, g3, g4⟩ := subP_ok ps os hw h ho
  have hl : ((subP ps os).flatMap fun x => x.2).length = os.length := by rw [← congrArg List.length g2, List.length_map]
  have := page_repl g1 (os := os') (by rw [hl, h2]) (by omega) ho'
  rw [subP_sub ps os os' hw h h2] at this
  exact this
structure PgOk (ps : List Pcs) (n : Nat) : Prop where
  hw : ∀ x ∈ ps, PcW x
  len : (ps.flatMap fun x => x.2).length = n
  le : n ≤ 20
  pl : ps.length ≤ 100
  hb : ∀ x ∈ ps, x.1.length ≤ 1100 ∧ ∀ c ∈ x.1, c < 0x110000
def LdOk (n : Nat) (os : List (List Nat)) : Prop := os.length = n ∧ ∀ o ∈ os, blankL o ∧ o.length ≤ 1000
theorem PgOk.all {ps : List Pcs} {n : Nat} {os : List (List Nat)} (h : PgOk ps n) (ho : LdOk n os) : (SX.S (pgT ps os)).length ≤ 200000 ∧ PyData.strOk (SX.S (pgT ps os)) = true ∧ okTx (pgT ps os) ∧ inS (pgT ps os) = os.map SX.S :=
  page_sub h.hw (by rw [h.len, ho.1]) (by rw [ho.1]; exact h.le) ho.2 h.pl h.hb
theorem PgOk.conv {ps : List Pcs} {n : Nat} {os os' : List (List Nat)} (h : PgOk ps n) (ho : LdOk n os) (ho' : LdOk n os') : TL.joinL [10] (replL (rowsL (pgT ps os)) (lnS (pgT ps os)) os') = pgT ps os' :=
  conv_T h.hw (by rw [h.len, ho.1]) (by rw [ho.1, ho'.1]) (by rw [ho.1]; exact h.le) ho.2 ho'.2
def nmD (d : PyData) : PyData := match d with
  | .tuple [a, _, c] => .tuple [a, c]
  | d => d
def nmL (x : Ln) : PyData := .tuple [.int (x.1 : Nat), .str (SX.S x.2.2)]
end Pz
set_option maxRecDepth 100000
namespace Pz
open PySem PySem.Spec PyProof.Rows L2 TL
variable [PenC]
def wiA (d e : PyData) : Ans := match lgD d with
  | .err c fs => .err c fs
  | .ok ls => match d, e with
    | .str z, .list os => if os.length = ls.length ∧ (os.all isInd) = true then .ok (.str (SX.S (TL.joinL [10] (replL (rowsL (tl z)) ls (os.map fun d => tl (toZ d)))))) else .err "InvalidText" []
    | _, _ => .err "InvalidText" []
def ItO (x : PyData) : Prop := RepP 11000 1 x ∧ ∀ z, x = .str z → z.length ≤ 1001
structure OdD (n : Nat) (d : PyData) : Prop where
  rp : RepZ d ∨ RepOk d
  bad : ∀ os, d = .list os → ¬ (os.length = n ∧ (os.all isInd) = true)
  ln : ∀ os, d = .list os → os.length ≤ 1000000 ∧ ∀ x ∈ os, ∀ z, x = .str z → z.length ≤ 1000000
def ldE (ps : List Pcs) : List (List Nat) := (ps.flatMap fun x => x.2).map fun x => x.1
def zuF (d : PyData) : PyData := match d with
  | .tuple [.tuple [n, _, y], b] => .tuple [n, b, y]
  | d => d
def snF (d : PyData) : PyData := match d with
  | .tuple [_, b, _] => b
  | d => d
end Pz
set_option maxRecDepth 100000
namespace Pz
open PySem PySem.Spec PyProof.Rows L2 TL
variable [PenC]
structure ScS where
  num : Nat
  dep : Int
  is : Bool
  rm : Bool
  st : List Nat
def rm1 (c : Nat) (s : ScS) : Bool := if c = 35 then true else if c = 10 then false else s.rm
def sc1 (c : Nat) (s : ScS) : ScS where
  num := if c = 10 then s.num + 1 else s.num
  is := if c = 10 then true else if blC c = true then s.is else false
  rm := rm1 c s
  st := if c ≠ 10 ∧ s.is = true ∧ blC c = false ∧ s.dep = 0 ∧ c ≠ 35 then s.st ++ [s.num] else s.st
  dep := if rm1 c s = true then s.dep else s.dep + stp c
def scA : ScS → List Nat → List Nat × Option Nat
  | s, [] => (s.st, if 0 < s.dep then some s.num else none)
  | s, c :: l => if (sc1 c s).dep < 0 then ((sc1 c s).st, some (sc1 c s).num) else scA (sc1 c s) l
abbrev begS (d : Int) (n : Nat) (r : List Nat) : List Nat := if d = 0 ∧ bgL (rsL r) = true then [n] else []
def rsc : Nat → Int → List Nat → List (List Nat) → List Nat × Option Nat
  | n, d, st, [] => (st, if 0 < d then some (n - 1) else none)
  | n, d, st, r :: rs => match dpL (cdL r) d with
    | none => (st ++ begS d n r, some n)
    | some d' => rsc (n + 1) d' (st ++ begS d n r) rs
end Pz
set_option maxRecDepth 100000
namespace Pz
open PySem PySem.Spec PyProof.Rows L2 TL
variable [PenC]
def nxD (d : Int) (r : List Nat) : Int := (dpL (cdL r) d).getD 0
def tkG : Int → List (List Nat) → List (List Nat)
  | _, [] => []
  | d, r :: rs => if 0 < d then r :: tkG (nxD d r) rs else []
def fnG : Int → Nat → List (List Nat) → List Ln
  | _, _, [] => []
  | d, n, r :: rs => (if ¬ 0 < d ∧ bgL (rsL r) = true then [(n, ldL r, TL.joinL [10] (rsL r :: tkG (nxD d r) rs))] else []) ++ fnG (nxD d r) (n + 1) rs
def addAll (f : List Ln) (T : List (List Nat)) : List Ln := T.foldl (fun f l => addL l f) f
def edD : Int → List (List Nat) → Option Int
  | d, [] => some d
  | d, r :: rs => (dpL (cdL r) d).bind fun d' => edD d' rs
end Pz
set_option maxRecDepth 100000
namespace Pz
open PySem PySem.Spec PyProof.Rows L2 TL
variable [PenC]
abbrev prS (x : Nat × Nat) : PyData := .tuple [.int (x.1 : Nat), .int (x.2 : Nat)]
def badS : Option Nat → PyData
  | some n => .int (n : Nat)
  | none => .none
abbrev scZ (l : List Nat) : List Nat × Option Nat := scA ⟨0, 0, true, false, []⟩ l
def dueX (d : PyData) : PyData := match lgD d with
  | .ok ls => .list [.list (ls.map lnD)]
  | .err c fs => (hrdB c fs).getD .none
theorem strOk_cutZ {z : Str} {a b : Option Int} (h : PyData.strOk z = true) : PyData.strOk (cutS z a b) = true := by
  rw [strOk_iff] at h ⊢
  intro c m
  rw [tl_cutS] at m
  exact h c (cut_mem m)
theorem cutS_lens (z : Str) {a : Int} (ha : 0 ≤ a) : (cutS z none (some a)).length ≤ a.toNat ∧ (cutS z none (some a)).length ≤ z.length ∧ (cutS z (some a) none).length = z.length - a.toNat := by
  refine ⟨?_, ?_, ?_⟩
  · rw [Pz.len_tl, tl_cutS, cut_hi ha]; omega
  · rw [Pz.len_tl, tl_cutS, cut_hi ha, ← Pz.len_tl]; omega
  · rw [Pz.len_tl, tl_cutS, cut_drop ha, List.length_drop, ← Pz.len_tl]
theorem cutS_len (z : Str) (a b : Option Int) : (cutS z a b).length ≤ z.length := by
  rw [Pz.len_tl, tl_cutS, show z.length = (tl z).length from Pz.len_tl]; exact cut_len
theorem rev_tl (z : Str) : tl (revT z) = (tl z).reverse := rfl
theorem strOk_rev {z : Str} (h : PyData.strOk z = true) : PyData.strOk (revT z) = true := by
  rw [strOk_iff] at h ⊢
  intro c m
  rw [rev_tl] at m
  exact h c (List.mem_reverse.mp m)
theorem rev_len (z : Str) : (revT z).length = z.length := by rw [Pz.len_tl, rev_tl, List.length_reverse, ← Pz.len_tl]
end Pz
set_option maxRecDepth 100000
namespace Pz
open PySem PySem.Spec PyProof.Rows L2 TL
variable [PenC]
def runQ : Nat → List Nat → Option Nat
  | s, [] => some s
  | s, c :: l => (nxQ s c).bind fun t => runQ t l
theorem runQ_app : ∀ (a : List Nat) (s : Nat) (b : List Nat), runQ s (a ++ b) = (runQ s a).bind fun t => runQ t b
  | [], s, b => rfl
  | c :: a, s, b => by
    rw [List.cons_append, runQ, runQ]
    cases nxQ s c with
    | none => rfl
    | some t => exact runQ_app a t b
def isN (w : List Nat) : Bool := !w.isEmpty && w.all dgB && (w.headD 0 != 48 || w == [48])
def wdC (k : Nat) : List Nat → List (List Nat)
  | [] => [[]]
  | c :: l => if c = k then [] :: wdC k l else match wdC k l with
    | w :: ws => (c :: w) :: ws
    | [] => [[c]]
theorem wdC_ne (k : Nat) : ∀ l, wdC k l ≠ []
  | [] => by simp [wdC]
  | c :: l => by
    rw [wdC]
    split
    · simp
    · split <;> simp
theorem wdC_one {k : Nat} : ∀ {l : List Nat}, k ∉ l → wdC k l = [l]
  | [], _ => rfl
  | c :: l, h => by
    rw [wdC, if_neg (fun e => h (by rw [e]; exact List.mem_cons_self)), wdC_one (fun m => h (List.mem_cons_of_mem _ m))]
theorem wdC_cut {k : Nat} : ∀ {w : List Nat} (l : List Nat), k ∉ w → wdC k (w ++ k :: l) = w :: wdC k l
  | [], l, _ => by rw [List.nil_append, wdC, if_pos rfl]
  | c :: w, l, h => by
    rw [List.cons_append, wdC, if_neg (fun e => h (by rw [e]; exact List.mem_cons_self)), wdC_cut l (fun m => h (List.mem_cons_of_mem _ m))]
theorem cut_at {k : Nat} : ∀ {l : List Nat}, k ∈ l → ∃ w r, l = w ++ k :: r ∧ k ∉ w
  | c :: l, h => by
    by_cases e : c = k
    · subst e; exact ⟨[], l, rfl, List.not_mem_nil⟩
    · obtain ⟨w, r, e1, e2⟩ := cut_at ((List.mem_cons.mp h).resolve_left fun z => e z.symm)
      exact ⟨c :: w, r, by rw [e1]; rfl, fun m => (List.mem_cons.mp m).elim (fun z => e z.symm) e2⟩
theorem run_digs {s : Nat} (hs : s = 5 ∨ s = 7) : ∀ {w : List Nat}, 43 ∉ w → 46 ∉ w → runQ s w = if w.all dgB = true then some s else none
  | [], _, _ => rfl
  | c :: w, h1, h2 => by
    have c1 : c ≠ 43 := fun e => h1 (by rw [e]; exact List.mem_cons_self)
    have c2 : c ≠ 46 := fun e => h2 (by rw [e]; exact List.mem_cons_self)
    have ih := run_digs hs (w := w) (fun m => h1 (List.mem_cons_of_mem _ m)) (fun m => h2 (List.mem_cons_of_mem _ m))
    have hn : nxQ s c = if dgB c = true then some s else none := by
      unfold nxQ
      rcases hs with rfl | rfl <;> simp [c1, c2]
    rw [runQ, hn, List.all_cons]
    cases dgB c with
    | false => rfl
    | true => simpa using ih
theorem run7 : ∀ {w : List Nat}, runQ 7 w = if w.all dgB = true then some 7 else none
  | [] => rfl
  | c :: w => by
    have hn : nxQ 7 c = if dgB c = true then some 7 else none := by
      unfold nxQ
      simp
    rw [runQ, hn, List.all_cons]
    cases dgB c with
    | false => rfl
    | true => simpa using run7 (w := w)
def oneW (s : Nat) (w : List Nat) : Option Nat := if w = [] then some s else if isN w = true then some (if w = [48] then 4 else 5) else if s = 0 ∧ w = [45] then some 1 else none
theorem dg_lit : dgB 45 = false ∧ dgB 43 = false ∧ dgB 46 = false ∧ dgB 48 = true := by decide
theorem run_word {s : Nat} (hs : s = 0 ∨ s = 2) {w : List Nat} (h1 : 43 ∉ w) (h2 : 46 ∉ w) : runQ s w = oneW s w := by
  cases w with
  | nil => rfl
  | cons c r =>
    have r1 : 43 ∉ r := fun m => h1 (List.mem_cons_of_mem _ m)
    have r2 : 46 ∉ r := fun m => h2 (List.mem_cons_of_mem _ m)
    have hn : nxQ s c = if s = 0 ∧ c = 45 then some 1 else nmQ c 4 5 := by
      unfold nxQ
      rw [if_pos hs]
    have hstuck : ∀ t, (t = 1 ∨ t = 4) → r ≠ [] → runQ t r = none := fun t ht hr => by
      cases r with
      | nil => exact absurd rfl hr
      | cons d r =>
        have d1 : d ≠ 43 := fun e => r1 (by rw [e]; exact List.mem_cons_self)
        have d2 : d ≠ 46 := fun e => r2 (by rw [e]; exact List.mem_cons_self)
        have : nxQ t d = none := by
          unfold nxQ
          rcases ht with rfl | rfl <;> simp [d1, d2]
        rw [runQ, this]; rfl
    rw [runQ, hn]
    unfold oneW isN
    by_cases hm : s = 0 ∧ c = 45
    · obtain ⟨rfl, rfl⟩ := hm
      simp only [and_self, if_true, Option.bind_some]
      by_cases hr : r = []
      · subst hr
        rfl
      · rw [hstuck 1 (.inl rfl) hr]
        simp [dg_lit, hr]
    · rw [if_neg hm]
      unfold nmQ
      cases hd : dgB c with
      | false =>
        have h5 : ¬ (s = 0 ∧ c = 45 ∧ r = []) := fun ⟨a, b, _⟩ => hm ⟨a, b⟩
        simp [hd]
        exact fun a b _ => hm ⟨a, b⟩
      | true =>
        simp only [if_true, Option.bind_some]
        by_cases h48 : c = 48
        · subst h48
          rw [if_pos rfl]
          by_cases hr : r = []
          · subst hr
            rfl
          · rw [hstuck 4 (.inr rfl) hr]
            simp [hr]
        · rw [if_neg h48, run_digs (.inl rfl) r1 r2]
          have hc45 : ¬ c = 45 := fun e => by rw [e] at hd; exact absurd hd (by decide)
          cases ha : r.all dgB with
          | true => simp [hd, ha, h48]
          | false => simp [hd, ha, h48, hc45]
def resW : Nat → List (List Nat) → Option Nat
  | _, [] => none
  | s, [w] => oneW s w
  | _, w :: u :: ws => if isN w = true then resW 2 (u :: ws) else none
theorem oneW_num {s : Nat} {w : List Nat} (h : isN w = true) : oneW s w = some (if w = [48] then 4 else 5) := by
  unfold oneW
  rw [if_neg (by intro e; subst e; cases h), if_pos h]
theorem run_words : ∀ (n : Nat) (l : List Nat), l.length ≤ n → 43 ∉ l → ∀ s, s = 0 ∨ s = 2 → runQ s l = resW s (wdC 46 l) := by
  intro n
  induction n with
  | zero =>
    intro l hl h s hs
    obtain rfl : l = [] := List.eq_nil_of_length_eq_zero (by omega)
    rfl
  | succ n ih =>
    intro l hl h s hs
    by_cases hm : 46 ∈ l
    · obtain ⟨w, r, rfl, hw⟩ := cut_at hm
      have hw43 : 43 ∉ w := fun m => h (List.mem_append_left _ m)
      have hr43 : 43 ∉ r := fun m => h (List.mem_append_right _ (List.mem_cons_of_mem _ m))
      rw [wdC_cut r hw, runQ_app, run_word hs hw43 hw]
      cases e : wdC 46 r with
      | nil => exact absurd e (wdC_ne 46 r)
      | cons u ws =>
        rw [resW, ← e, ← ih r (by rw [List.length_append, List.length_cons] at hl; omega) hr43 2 (.inr rfl)]
        by_cases hN : isN w = true
        · rw [oneW_num hN, if_pos hN, Option.bind_some, runQ]
          have : nxQ (if w = [48] then 4 else 5) 46 = some 2 := by split <;> rfl
          rw [this]; rfl
        · rw [if_neg hN]
          unfold oneW
          by_cases h0 : w = []
          · rw [if_pos h0, Option.bind_some, runQ]
            have : nxQ s 46 = none := by rcases hs with rfl | rfl <;> rfl
            rw [this]; rfl
          · rw [if_neg h0, if_neg hN]
            split
            · rw [Option.bind_some, runQ]; rfl
            · rfl
    · rw [wdC_one hm, run_word hs h hm]; rfl
theorem res_some : ∀ {ws : List (List Nat)}, ws ≠ [] → (resW 2 ws).isSome = (ws.dropLast.all isN && (ws.getLastD [] == [] || isN (ws.getLastD [])))
  | [], h => absurd rfl h
  | [w], _ => by
    show (oneW 2 w).isSome = _
    unfold oneW
    by_cases h0 : w = []
    · simp [h0]
    · rw [if_neg h0]
      cases h1 : isN w <;> simp [h0, h1]
  | w :: u :: ws, _ => by
    rw [resW]
    have ih := res_some (ws := u :: ws) (by simp)
    rw [List.dropLast_cons_of_ne_nil (by simp), List.all_cons]
    have e : (w :: u :: ws).getLastD [] = (u :: ws).getLastD [] := by simp [List.getLastD]
    rw [e]
    cases h1 : isN w with
    | true => rw [if_pos rfl, ih, Bool.true_and]
    | false => rw [if_neg (by decide)]; rfl
theorem res_all : ∀ {ws : List (List Nat)} {s : Nat}, ws ≠ [] → s = 0 ∨ s = 2 → ((∃ t, resW s ws = some t ∧ (t = 1 ∨ t = 4 ∨ t = 5)) ↔ (ws.all isN = true ∨ (s = 0 ∧ ws = [[45]])))
  | [], _, h, _ => absurd rfl h
  | [w], s, _, hs => by
    show (∃ t, oneW s w = some t ∧ _) ↔ _
    unfold oneW
    by_cases h0 : w = []
    · subst h0
      simp [isN]
      rcases hs with rfl | rfl <;> decide
    · rw [if_neg h0]
      cases h1 : isN w with
      | true =>
        simp only [if_true, List.all_cons, h1, List.all_nil, Bool.and_true, true_or, iff_true]
        split
        · exact ⟨4, rfl, .inr (.inl rfl)⟩
        · exact ⟨5, rfl, .inr (.inr rfl)⟩
      | false =>
        by_cases h2 : s = 0 ∧ w = [45]
        · obtain ⟨rfl, rfl⟩ := h2
          simp
        · rw [if_neg (by decide), if_neg h2]
          simp [h1]
          intro h3 h4
          exact h2 ⟨h3, h4⟩
  | w :: u :: ws, s, _, _ => by
    rw [resW]
    have ih := res_all (ws := u :: ws) (s := 2) (by simp) (.inr rfl)
    rw [List.all_cons]
    cases h1 : isN w with
    | true =>
      rw [if_pos rfl, ih]
      simp
    | false =>
      rw [if_neg (by decide)]
      simp
theorem nx43 (t : Nat) : nxQ t 43 = if t = 1 ∨ t = 4 ∨ t = 5 then some 3 else none := by
  unfold nxQ nmQ
  simp only [dg_lit.2.1]
  by_cases h0 : t = 0 ∨ t = 2
  · rw [if_pos h0, if_neg (show ¬ (t = 1 ∨ t = 4 ∨ t = 5) from by omega)]
    simp
  · rw [if_neg h0]
    by_cases h3 : t = 3
    · subst h3; rfl
    · rw [if_neg h3]
      by_cases h1 : t = 1 ∨ t = 4 ∨ t = 5
      · rw [if_pos h1]; simp [h1]
      · rw [if_neg h1]; simp [h1]
theorem run_rest3 (r : List Nat) : runQ 3 r = if r = [] then some 3 else if isN r = true then some (if r = [48] then 6 else 7) else none := by
  cases r with
  | nil => rfl
  | cons c r =>
    rw [runQ]
    have hn : nxQ 3 c = nmQ c 6 7 := rfl
    rw [hn]
    unfold nmQ isN
    cases hd : dgB c with
    | false => simp [hd]
    | true =>
      simp only [if_true, Option.bind_some]
      by_cases h48 : c = 48
      · subst h48
        rw [if_pos rfl]
        cases r with
        | nil => rfl
        | cons d r =>
          have : nxQ 6 d = none := by unfold nxQ; simp
          rw [runQ, this]
          simp
      · rw [if_neg h48, run7]
        cases ha : r.all dgB <;> simp [hd, ha, h48]
def begB (l : List Nat) : Bool :=
  if 43 ∈ l then (l.takeWhile (· != 43) == [45] || (wdC 46 (l.takeWhile (· != 43))).all isN) && ((l.dropWhile (· != 43)).drop 1 == [] || isN ((l.dropWhile (· != 43)).drop 1))
  else l == [] || l == [45] || ((wdC 46 l).dropLast.all isN && (((wdC 46 l).getLastD [] == [] && decide (1 < (wdC 46 l).length)) || isN ((wdC 46 l).getLastD [])))
theorem Core_dw {p : Nat → Bool} : ∀ {l : List Nat}, l.dropWhile p = [] ↔ ∀ x ∈ l, p x = true
  | [] => by simp
  | c :: l => by
    rw [List.dropWhile_cons]
    cases h : p c with
    | true => simp [h, Core_dw (l := l)]
    | false => simp [h]
theorem tw_cut {k : Nat} : ∀ {h : List Nat} (r : List Nat), k ∉ h → (h ++ k :: r).takeWhile (· != k) = h ∧ ((h ++ k :: r).dropWhile (· != k)).drop 1 = r
  | [], r, _ => by simp
  | c :: h, r, hh => by
    have hc : c ≠ k := fun e => hh (by rw [e]; exact List.mem_cons_self)
    obtain ⟨i1, i2⟩ := tw_cut (h := h) r fun m => hh (List.mem_cons_of_mem _ m)
    rw [List.cons_append, List.takeWhile_cons, List.dropWhile_cons]
    simp [hc, i1, i2]
theorem run_plus {h r : List Nat} (hh : 43 ∉ h) : runQ 0 (h ++ 43 :: r) = if (h == [45] || (wdC 46 h).all isN) = true then runQ 3 r else none := by
  rw [runQ_app, run_words _ h (Nat.le_refl _) hh 0 (.inl rfl)]
  have hk := res_all (ws := wdC 46 h) (s := 0) (wdC_ne 46 h) (.inl rfl)
  have e45 : wdC 46 h = [[45]] ↔ h = [45] := by
    constructor
    · intro e
      by_cases hm : 46 ∈ h
      · obtain ⟨w, r, rfl, hw⟩ := cut_at hm
        rw [wdC_cut r hw, List.cons.injEq] at e
        exact absurd e.2 (wdC_ne 46 r)
      · rw [wdC_one hm, List.cons.injEq] at e
        exact e.1
    · intro e; subst e; rfl
  by_cases hc : (h == [45] || (wdC 46 h).all isN) = true
  · rw [if_pos hc]
    obtain ⟨t, e, ht⟩ := hk.mpr (by
      rcases Bool.or_eq_true_iff.mp hc with q | q
      · exact .inr ⟨rfl, e45.mpr (by simpa using q)⟩
      · exact .inl q)
    rw [e, Option.bind_some, runQ, nx43, if_pos ht]; rfl
  · rw [if_neg hc]
    cases e : resW 0 (wdC 46 h) with
    | none => rfl
    | some t =>
      rw [Option.bind_some, runQ, nx43, if_neg (fun ht => hc ?_)]
      · rfl
      · rcases hk.mp ⟨t, e, ht⟩ with q | ⟨_, q⟩
        · rw [q, Bool.or_true]
        · rw [e45.mp q]; rfl
theorem beg_run (l : List Nat) : begB l = (runQ 0 l).isSome := by
  unfold begB
  by_cases hm : 43 ∈ l
  · rw [if_pos hm]
    obtain ⟨h, r, rfl, hh⟩ := cut_at hm
    obtain ⟨t1, t2⟩ := tw_cut r hh
    rw [t1, t2, run_plus hh]
    cases hc : (h == [45] || (wdC 46 h).all isN) with
    | false => rfl
    | true =>
      rw [if_pos rfl, Bool.true_and, run_rest3]
      by_cases hr : r = []
      · subst hr; rfl
      · rw [if_neg hr]
        cases hN : isN r <;> simp [hr]
  · rw [if_neg hm, run_words _ l (Nat.le_refl _) hm 0 (.inl rfl)]
    cases e : wdC 46 l with
    | nil => exact absurd e (wdC_ne 46 l)
    | cons w ws =>
      cases ws with
      | nil =>
        obtain rfl : l = w := by
          by_cases h46 : 46 ∈ l
          · obtain ⟨w', r, rfl, hw⟩ := cut_at h46
            rw [wdC_cut r hw, List.cons.injEq] at e
            exact absurd e.2 (wdC_ne 46 r)
          · rw [wdC_one h46, List.cons.injEq] at e
            exact e.1
        show _ = (oneW 0 l).isSome
        unfold oneW
        by_cases h0 : l = []
        · subst h0; rfl
        · by_cases h1 : l = [45]
          · subst h1; rfl
          · rw [if_neg h0]
            cases hN : isN l <;> simp [h0, h1, hN, List.getLastD]
      | cons u ws =>
        have hl0 : (l == []) = false := by
          cases l with
          | nil => cases e
          | cons _ _ => rfl
        have hl1 : (l == [45]) = false := by
          by_cases h1 : l = [45]
          · subst h1; cases e
          · simpa using h1
        rw [resW, hl0, hl1]
        have ih := res_some (ws := u :: ws) (by simp)
        rw [List.dropLast_cons_of_ne_nil (by simp), List.all_cons]
        have e2 : (w :: u :: ws).getLastD [] = (u :: ws).getLastD [] := by simp [List.getLastD]
        rw [e2]
        cases h1 : isN w with
        | true =>
          rw [if_pos rfl, ih]
          simp
        | false => rw [if_neg (by decide)]; simp
theorem run_end {l : List Nat} {s : Nat} (h : runQ 0 l = some s) : ((l.dropWhile (· != 43)).drop 1 = [] ↔ ¬ (s = 6 ∨ s = 7)) := by
  by_cases hm : 43 ∈ l
  · obtain ⟨h', r, rfl, hh⟩ := cut_at hm
    obtain ⟨t1, t2⟩ := tw_cut r hh
    rw [t2]
    rw [run_plus hh] at h
    split at h
    · rw [run_rest3] at h
      by_cases hr : r = []
      · subst hr
        cases h
        simp
      · rw [if_neg hr] at h
        split at h
        · cases h
          simp [hr]
        · cases h
    · cases h
  · have e : (l.dropWhile (· != 43)) = [] := by
      rw [Core_dw]
      intro x mx
      have : x ≠ 43 := fun z => hm (by rw [← z]; exact mx)
      simpa using this
    rw [e, run_words _ l (Nat.le_refl _) hm 0 (.inl rfl)] at *
    have key : ∀ (ws : List (List Nat)) (s0 : Nat), s0 = 0 ∨ s0 = 2 → resW s0 ws = some s → s < 6 := by
      intro ws
      induction ws with
      | nil => intro s0 _ h; cases h
      | cons w ws ih =>
        intro s0 hs0 h
        cases ws with
        | nil =>
          have h : oneW s0 w = some s := h
          unfold oneW at h
          split at h
          · cases h; omega
          · split at h
            · cases h; split <;> omega
            · split at h
              · cases h; omega
              · cases h
        | cons u ws =>
          rw [resW] at h
          split at h
          · exact ih 2 (.inr rfl) h
          · cases h
    have := key _ 0 (.inl rfl) h
    simp
    omega
theorem beg_step {l : List Nat} {a s c : Nat} {r : List Nat} (h1 : l = l.take a ++ c :: r) (h2 : runQ 0 (l.take a) = some s) (ha : a < l.length) : begB (l.take (a + 1)) = (nxQ s c).isSome ∧ ∀ t, nxQ s c = some t → runQ 0 (l.take (a + 1)) = some t := by
  have e : l.take (a + 1) = l.take a ++ [c] := by
    rw [List.take_succ]
    congr 1
    have hl : (l.take a).length = a := by rw [List.length_take]; omega
    have : l[a]? = some c := by
      rw [h1, List.getElem?_append_right (by omega), hl, Nat.sub_self]; rfl
    rw [this]; rfl
  have er : runQ 0 (l.take (a + 1)) = nxQ s c := by
    rw [e, runQ_app, h2, Option.bind_some, runQ]
    cases nxQ s c <;> rfl
  exact ⟨by rw [beg_run, er], fun t ht => by rw [er, ht]⟩
theorem spl_wd {k : Nat} : ∀ (l acc : List Nat), TL.spl [k] 0 acc l = match wdC k l with
    | w :: ws => (acc ++ w) :: ws
    | [] => []
  | [], acc => by rw [spl_nil, wdC]; simp
  | c :: l, acc => by
    rw [wdC]
    by_cases h : c = k
    · rw [if_pos h, spl_hit (by simp [TL.pre, h])]
      have ih := spl_wd (k := k) l []
      dsimp only
      rw [List.append_nil]
      cases e : wdC k l with
      | nil => exact absurd e (wdC_ne k l)
      | cons w ws =>
        rw [e] at ih
        simpa using ih
    · rw [if_neg h, spl_miss (by simp [TL.pre]; exact h), spl_wd l]
      cases e : wdC k l with
      | nil => exact absurd e (wdC_ne k l)
      | cons w ws => simp
theorem split_wd {l : List Nat} {k : Nat} (hk : k < 256) : Txt.split (SX.S l) (SX.S [k]) = (wdC k l).map SX.S := by
  rw [SX.split_S (by simp) (by simpa using hk)]
  have e := spl_wd (k := k) l []
  cases h : wdC k l with
  | nil => exact absurd h (wdC_ne k l)
  | cons w ws =>
    rw [h] at e
    exact congrArg (List.map SX.S) e
theorem part_wd {l : List Nat} {k : Nat} : Txt.partition (SX.S l) (SX.S [k]) = (if k ∈ l then (SX.S (l.takeWhile (· != k)), SX.S [k], SX.S ((l.dropWhile (· != k)).drop 1)) else (SX.S l, Str.empty, Str.empty)) := by
  have key : ∀ (l acc : List Nat), TL.par [k] acc l = if k ∈ l then some (acc ++ l.takeWhile (· != k), (l.dropWhile (· != k)).drop 1) else none := by
    intro l
    induction l with
    | nil => intro acc; simp [TL.par]
    | cons c l ih =>
      intro acc
      by_cases h : c = k
      · subst h
        rw [TL.par_hit (by simp [TL.pre])]
        simp
      · rw [TL.par_miss (by simp [TL.pre]; exact h), ih]
        have h' : k ∈ c :: l ↔ k ∈ l := by simp [Ne.symm h]
        simp only [h', List.takeWhile_cons, List.dropWhile_cons, show (c != k) = true from by simpa using h, if_true, List.append_assoc, List.cons_append, List.nil_append]
  rw [TL.partition_par _ _ (by rw [tl_S]; exact nofun), tl_S, tl_S, key]
  by_cases h : k ∈ l
  · rw [if_pos h, if_pos h]; simp
  · rw [if_neg h, if_neg h]
noncomputable def heQ (d : PyData) : PyData := match pnA d with
  | .ok x => x
  | .err c fs => if c = ("TooLong" : Str) then (fs.lookup ("length" : Str)).getD .none else .list [(fs.lookup ("at" : Str)).getD .none]
noncomputable def duQ (z : Str) : PyData := heQ (.str z)
theorem ok_mem {l : List Nat} (h : PyData.strOk (SX.S l) = true) : ∀ c ∈ l, c < 0x110000 := fun c m => by
  unfold PyData.strOk at h
  have := Array.all_eq_true_iff_forall_mem.mp h c (by simpa [SX.S] using m)
  simpa using this
theorem ok_of {l : List Nat} (h : ∀ c ∈ l, c < 0x110000) : PyData.strOk (SX.S l) = true := by
  unfold PyData.strOk
  refine Array.all_eq_true_iff_forall_mem.mpr fun c m => ?_
  have := h c (by simpa [SX.S] using m)
  simpa using this
def fDg (d : PyData) : Option PyData := if dgB ((tl (toZ d)).headD 0) = true then none else some d
theorem fDg_c (c : Nat) : fDg (.str ⟨#[c]⟩) = if dgB c = true then none else some (.str ⟨#[c]⟩) := rfl
theorem signs_dg (l : List Nat) : (Pz.signs (SX.S l)).filterMap fDg = ((l.filter fun c => !dgB c).map fun c => SX.S [c]).map .str := by
  show ((tl (SX.S l)).map fun c => PyData.str ⟨#[c]⟩).filterMap fDg = _
  rw [tl_S]
  induction l with
  | nil => rfl
  | cons c l ih =>
    rw [List.map_cons, List.filterMap_cons, fDg_c, List.filter_cons]
    cases h : dgB c with
    | true => simpa using ih
    | false =>
      simp only [Bool.false_eq_true, if_false, Bool.not_false, if_true, List.map_cons]
      rw [ih]
theorem dg_empty (l : List Nat) : (((l.filter fun c => !dgB c).map fun c => SX.S [c]).map PyData.str).isEmpty = l.all dgB := by
  induction l with
  | nil => rfl
  | cons c l ih =>
    rw [List.filter_cons, List.all_cons]
    cases h : dgB c with
    | true => simpa using ih
    | false => rfl
theorem sh_wds {L : List (List Nat)} (h : ∀ w ∈ L, ∀ c ∈ w, c < 0x110000) : SeqAt.shaped (.list ((L.map SX.S).map .str)) = true := sh_strs fun z m => by
  obtain ⟨w, mw, rfl⟩ := List.mem_map.mp m
  exact ok_of (h w mw)
theorem wdC_mem {k : Nat} : ∀ {l : List Nat} {w : List Nat}, w ∈ wdC k l → w.length ≤ l.length ∧ ∀ c ∈ w, c ∈ l
  | [], w, m => by
    rw [wdC, List.mem_singleton] at m
    subst m
    exact ⟨Nat.le_refl _, fun c m => m⟩
  | x :: l, w, m => by
    rw [wdC] at m
    split at m
    · rcases List.mem_cons.mp m with rfl | m
      · exact ⟨Nat.zero_le _, fun c m => by cases m⟩
      · obtain ⟨h1, h2⟩ := wdC_mem m
        exact ⟨by rw [List.length_cons]; omega, fun c mc => List.mem_cons_of_mem _ (h2 c mc)⟩
    · split at m
      · rename_i v vs e
        have hv : v ∈ wdC k l := by rw [e]; exact List.mem_cons_self
        obtain ⟨h1, h2⟩ := wdC_mem hv
        rcases List.mem_cons.mp m with rfl | m
        · exact ⟨by rw [List.length_cons, List.length_cons]; omega, fun c mc => (List.mem_cons.mp mc).elim (fun z => by rw [z]; exact List.mem_cons_self) fun z => List.mem_cons_of_mem _ (h2 c z)⟩
        · obtain ⟨h1, h2⟩ := wdC_mem (k := k) (l := l) (w := w) (by rw [e]; exact List.mem_cons_of_mem _ m)
          exact ⟨by rw [List.length_cons]; omega, fun c mc => List.mem_cons_of_mem _ (h2 c mc)⟩
      · rename_i e
        exact absurd e (wdC_ne k l)
theorem wdC_len {k : Nat} : ∀ {l : List Nat}, (wdC k l).length ≤ l.length + 1
  | [] => by rw [wdC]; simp
  | x :: l => by
    have ih := wdC_len (k := k) (l := l)
    rw [wdC, List.length_cons]
    split
    · rw [List.length_cons]; omega
    · split
      · rename_i v vs e
        rw [e, List.length_cons] at ih
        rw [List.length_cons]; omega
      · simp
noncomputable def fNm (d : PyData) : Option PyData := if isN (tl (toZ d)) = true then none else some d
theorem fNm_S (w : List Nat) : fNm (.str (SX.S w)) = if isN w = true then none else some (.str (SX.S w)) := rfl
theorem wds_nm (ws : List (List Nat)) : ((ws.map SX.S).map PyData.str).filterMap fNm = ((ws.filter fun w => !isN w).map SX.S).map .str := by
  induction ws with
  | nil => rfl
  | cons c l ih =>
    rw [List.map_cons, List.map_cons, List.filterMap_cons, fNm_S, List.filter_cons]
    cases h : isN c with
    | true => simpa using ih
    | false =>
      simp only [Bool.false_eq_true, if_false, Bool.not_false, if_true, List.map_cons]
      rw [ih]
theorem nm_empty (ws : List (List Nat)) : (((ws.filter fun w => !isN w).map SX.S).map PyData.str).isEmpty = ws.all isN := by
  induction ws with
  | nil => rfl
  | cons c l ih =>
    rw [List.filter_cons, List.all_cons]
    cases h : isN c with
    | true => simpa using ih
    | false => rfl
theorem eqv_SS {a b : List Nat} : PyData.eqv (.str (SX.S a)) (.str (SX.S b)) = (a == b) := by
  rw [eqv_str]
  by_cases h : a = b
  · subst h; simp
  · rw [decide_eq_false fun z => h (S_inj z)]
    simp [h]
theorem lits80 : Str.ofString "+" = SX.S [43] ∧ Str.ofString "-" = SX.S [45] ∧ Str.ofString "." = SX.S [46] ∧ Str.ofString "" = SX.S [] := by decide +kernel
theorem cdwB {i j : Int} (h0 : 0 < j) (h1 : j < 2 ^ 240) : CDivW i j := ⟨h0, by
  have : j.natAbs < 2 ^ 240 := by omega
  have := (Nat.log2_lt (by omega)).mpr this
  omega⟩
theorem joinL_part {sep : List Nat} : ∀ {ws : List (List Nat)} {w : List Nat}, w ∈ ws → w.length ≤ (TL.joinL sep ws).length
  | [], _, m => by cases m
  | [x], w, m => by
    rw [List.mem_singleton.mp m]
    simp [TL.joinL]
  | x :: y :: ws, w, m => by
    have e : TL.joinL sep (x :: y :: ws) = x ++ sep ++ TL.joinL sep (y :: ws) := by simp [TL.joinL]
    rw [e, List.length_append, List.length_append]
    rcases List.mem_cons.mp m with rfl | m
    · omega
    · have := joinL_part (sep := sep) m
      omega
theorem shQ_parts {rs : List Nat} {t : Nat} : (∀ r ∈ rs, (numL r).length ≤ (shQ rs t).length) ∧ (numL t).length ≤ (shQ rs t).length := by
  unfold shQ
  rw [List.length_append, List.length_cons]
  refine ⟨fun r m => ?_, by omega⟩
  rw [if_neg (by intro e; subst e; cases m)]
  have := joinL_part (sep := [46]) (List.mem_map.mpr ⟨r, m, rfl⟩ : numL r ∈ rs.map numL)
  omega
theorem pn_pre {d : PyData} (h : ∀ z, d = .str z → z.length ≤ 640 ∧ PyData.strOk z = true) : ∀ z, d = .str z → z.length ≤ 100000 ∧ PyData.strOk z = true ∧ ∀ rs t, tl z = shQ rs t → (∀ r ∈ rs, (numL r).length ≤ 640) ∧ (numL t).length ≤ 640 := fun z e => by
  obtain ⟨h1, h2⟩ := h z e
  refine ⟨by omega, h2, fun rs t et => ?_⟩
  obtain ⟨k1, k2⟩ := shQ_parts (rs := rs) (t := t)
  have hl : (shQ rs t).length ≤ 640 := by rw [← et, ← Pz.len_tl]; exact h1
  exact ⟨fun r m => Nat.le_trans (k1 r m) hl, Nat.le_trans k2 hl⟩
theorem pn_cases (d : PyData) : (∃ x, pnA d = .ok x) ∨ (∃ i, pnA d = .err "InvalidNotation" [("at", i)]) ∨ ∃ n, pnA d = .err "TooLong" [("length", n)] := by
  unfold pnA
  split
  · split
    · exact .inr (.inl ⟨_, rfl⟩)
    · split
      · exact .inr (.inr ⟨_, rfl⟩)
      · exact .inl ⟨_, rfl⟩
  · exact .inr (.inl ⟨_, rfl⟩)
theorem he_ok {d x : PyData} (h : pnA d = .ok x) : heQ d = x := by unfold heQ; rw [h]
theorem he_at {d i : PyData} (h : pnA d = .err "InvalidNotation" [("at", i)]) : heQ d = .list [i] := by
  unfold heQ
  rw [h]
  dsimp only
  rw [if_neg (by decide)]
  rfl
theorem he_len {d i : PyData} (h : pnA d = .err "TooLong" [("length", i)]) : heQ d = i := by
  unfold heQ
  rw [h]
  dsimp only
  rw [if_pos rfl]
  rfl
theorem cutS_S {l : List Nat} {j : Int} (h : 0 ≤ j) : cutS (SX.S l) none (some j) = SX.S (l.take j.toNat) := S_of_tl (by rw [tl_cutS, cut_take h, tl_S])
theorem part_sh (rs : List Nat) (t : Nat) : Txt.partition (SX.S (shQ rs t)) (SX.S [43]) = (SX.S (hdQ rs), SX.S [43], SX.S (numL t)) := by
  obtain ⟨h1, h2⟩ := tw_cut (k := 43) (numL t) (hdQ_43 (rs := rs))
  rw [shQ_hd, part_wd, if_pos (by simp), h1, h2]
theorem shown_ok {i : Int} (h0 : 0 ≤ i) (h1 : i < 10 ^ 61) : (PyData.shown (.int i)).length ≤ 61 ∧ PyData.strOk (PyData.shown (.int i)) = true := by
  obtain ⟨n, rfl⟩ : ∃ n : Nat, i = n := ⟨i.toNat, by omega⟩
  rw [nmS]
  refine ⟨?_, ok_of fun c m => by have := numL_ok m; omega⟩
  rw [SX.S_len]
  exact numL_len (by decide) (by omega)
theorem replS_mem {y z : List Nat} {c : Nat} : ∀ {l : List Nat} {s : Nat}, c ∈ PySem.StrLaws.replS y z s l → c ∈ z ∨ c ∈ l
  | [], s, m => by
    cases s <;> (rw [PySem.StrLaws.replS] at m; cases m)
  | x :: r, 0, m => by
    rw [PySem.StrLaws.replS] at m
    split at m
    · rcases List.mem_append.mp m with m | m
      · exact .inl m
      · exact (replS_mem m).imp id fun k => List.mem_cons_of_mem _ k
    · rcases List.mem_cons.mp m with rfl | m
      · exact .inr List.mem_cons_self
      · exact (replS_mem m).imp id fun k => List.mem_cons_of_mem _ k
  | x :: r, s + 1, m => by
    rw [PySem.StrLaws.replS] at m
    exact (replS_mem m).imp id fun k => List.mem_cons_of_mem _ k
theorem strOk_repl {x y z : Str} (hy : 1 ≤ y.length) (hx : PyData.strOk x = true) (hz : PyData.strOk z = true) : PyData.strOk (Txt.replace x y z) = true := by
  rw [strOk_iff] at *
  intro c m
  have m : c ∈ (Txt.replace x y z).cps.toList := m
  rw [PySem.StrLaws.replace_list hy] at m
  rcases replS_mem m with k | k
  · exact hz c k
  · exact hx c k
theorem strOk_sign {x : Nat} (h : x < 0x110000) : PyData.strOk ⟨#[x]⟩ = true := ok_of (l := [x]) fun c m => by rw [List.mem_singleton.mp m]; exact h
theorem val_lt : ∀ (k : Nat) (l : List Nat), l.length = k → (∀ c ∈ l, 48 ≤ c ∧ c ≤ 57) → NumText.digitsVal l < 10 ^ k
  | 0, l, h, _ => by
    obtain rfl := List.eq_nil_of_length_eq_zero h
    decide
  | k + 1, l, h, hd => by
    rcases List.eq_nil_or_concat l with rfl | ⟨a, x, rfl⟩
    · cases h
    · rw [List.concat_eq_append] at h hd ⊢
      rw [List.length_append, List.length_singleton] at h
      have ih := val_lt k a (by omega) fun c m => hd c (List.mem_append_left _ m)
      have hx := hd x (List.mem_append_right _ List.mem_cons_self)
      rw [val_snoc, Nat.pow_succ]
      omega
theorem num_lt (n : Nat) : n < 10 ^ (numL n).length := by
  have h := val_lt _ (numL n) rfl fun c m => by have := numL_digits n c m; omega
  rwa [numL_val] at h
theorem ffG_le : ∀ (l : List Nat) (s a i : Nat), ffG s a l = some i → i ≤ a + l.length
  | [], s, a, i, h => by
    rw [ffG] at h
    split at h
    · cases h
    · cases h; omega
  | c :: l, s, a, i, h => by
    rw [ffG] at h
    rw [List.length_cons]
    split at h
    · cases h; omega
    · have := ffG_le l _ _ _ h
      omega
theorem rep_big {n : Nat} (h : n < 10 ^ 210) : RepZ (.int (n : Nat)) := by
  refine ⟨rfl, ?_, ?_, ?_, by simp [PyData.depth]⟩
  · have : n < 2 ^ 800 := Nat.lt_trans h (by decide +kernel)
    unfold PyData.showable
    have h2 : (n : Int).natAbs.log2 < 1920 := by
      rw [Int.natAbs_natCast]
      rcases Nat.eq_zero_or_pos n with z | z
      · subst z; decide
      · have := (Nat.log2_lt (by omega)).mpr this
        omega
    simpa using h2
  · rw [nmS]; exact ok_of fun c m => by have := numL_ok m; omega
  · rw [nmS, SX.S_len]
    have := numL_len (n := n) (k := 210) (by decide) h
    rw [sizeLine_eq]; omega
theorem he_rep {d : PyData} (h : ∀ z, d = .str z → z.length ≤ 200 ∧ PyData.strOk z = true) : (RepOk (heQ d) ∨ RepZ (heQ d)) ∧ SeqAt.shaped (.str (heQ d).shown) = true := by
  have key : ∀ x, (RepOk x ∨ RepZ x) → ((RepOk x ∨ RepZ x) ∧ SeqAt.shaped (.str x.shown) = true) := fun x hx => ⟨hx, hx.elim (fun k => k.sh) fun k => k.sh⟩
  have lst : ∀ i : Nat, i ≤ 1000 → RepOk (.list [.int (i : Nat)]) := fun i hi => by
    have := (rp_is (ns := [(i : Nat)]) (fun n m => by rw [List.mem_singleton.mp m]; exact Nat.lt_of_le_of_lt (show ((i : Nat) : Int).natAbs ≤ 1000 by omega) (by decide +kernel))).lst
    exact this.r (by simp) (by simp)
  refine key _ ?_
  cases d with
  | str z =>
    obtain ⟨h1, h2⟩ := h z rfl
    obtain ⟨l, rfl⟩ : ∃ l, z = SX.S l := ⟨tl z, (SX.S_tl z).symm⟩
    rw [SX.S_len] at h1
    cases e : ffQ l with
    | some i =>
      rw [he_at (i := .int (i : Nat)) (by unfold pnA; dsimp only; rw [tl_S, e])]
      have := ffG_le l 0 0 i e
      exact .inl (lst i (by omega))
    | none =>
      obtain ⟨rs, t, rfl⟩ := sh_of e
      obtain ⟨p1, p2⟩ := shQ_parts (rs := rs) (t := t)
      by_cases hb : 1000 < rs.sum + rs.length + t
      · rw [he_len (by rw [pn_sh, if_pos hb])]
        refine .inr (rep_big ?_)
        have hr : ∀ r ∈ rs, r ≤ 10 ^ 200 := fun r m => Nat.le_of_lt (Nat.lt_of_lt_of_le (num_lt r) (Nat.pow_le_pow_right (by omega) (Nat.le_trans (p1 r m) h1)))
        have ht : t ≤ 10 ^ 200 := Nat.le_of_lt (Nat.lt_of_lt_of_le (num_lt t) (Nat.pow_le_pow_right (by omega) (Nat.le_trans p2 h1)))
        have hs := sum_le_nat hr
        have hge := hdQ_ge (rs := rs)
        have hl : rs.length ≤ 200 := by rw [shQ_hd, List.length_append] at h1; omega
        have hm : 10 ^ 200 * rs.length ≤ 10 ^ 200 * 200 := Nat.mul_le_mul_left _ hl
        have e : (10 : Nat) ^ 210 = 10 ^ 200 * 10000000000 := by decide +kernel
        rw [e]
        omega
      · rw [he_ok (by rw [pn_sh, if_neg hb])]
        refine .inl ((rp_s (strOk_blank blank_ind)).r ?_ (by omega))
        rw [SX.S_len, indL_len]
        omega
  | _ => exact .inl (lst 0 (by omega))
end Pz
set_option maxRecDepth 100000
set_option maxHeartbeats 0
namespace Lw
open PySem PySem.Spec PyProof.Rows L2 TL Pz
local instance : PenC := penL []
def topS (i : Nat) : Stmt := PySem.Challenge.pw_tabprism_k80_notation_refused.main.body.getD i (.Pass ⟨0, 0, 0, 0⟩)
abbrev s_need_characters : Stmt := topS 11
abbrev N_need_characters : List Str := ["length"]
theorem st_need_characters {a0 : Sl} : startS N_need_characters [a0] = [some a0] := rfl
theorem sc_need_characters : FnScope N_need_characters ["length"] (defScope s_need_characters) := ⟨rfl, rfl, rfl, by decide +kernel, rfl, by decide +kernel, by decide +kernel⟩
abbrev s_number_state : Stmt := topS 24
abbrev N_number_state : List Str := ["char", "zero", "other"]
theorem st_number_state {a0 a1 a2 : Sl} : startS N_number_state [a0, a1, a2] = [some a0, some a1, some a2] := rfl
theorem sc_number_state : FnScope N_number_state ["char", "zero", "other"] (defScope s_number_state) := ⟨rfl, rfl, rfl, by decide +kernel, rfl, by decide +kernel, by decide +kernel⟩
abbrev s__law_pen : Stmt := topS 29
abbrev N__law_pen : List Str := ["_law_script"]
theorem st__law_pen {a0 : Sl} : startS N__law_pen [a0] = [some a0] := rfl
theorem sc__law_pen : FnScope N__law_pen ["_law_script"] (defScope s__law_pen) := ⟨rfl, rfl, rfl, by decide +kernel, rfl, by decide +kernel, by decide +kernel⟩
abbrev s__law_draw : Stmt := topS 30
abbrev N__law_draw : List Str := ["_law_pen_here", "_law_many", "_law_at", "_law_cell", "_law_mixed", "_law_digit", "_law_great"]
theorem st__law_draw {a0 a1 : Sl} : startS N__law_draw [a0, a1] = [some a0, some a1, none, none, none, none, none] := rfl
theorem sc__law_draw : FnScope N__law_draw ["_law_pen_here", "_law_many"] (defScope s__law_draw) := ⟨rfl, rfl, rfl, by decide +kernel, rfl, by decide +kernel, by decide +kernel⟩
abbrev s__law_is_number : Stmt := topS 31
abbrev N__law_is_number : List Str := ["_law_word_here", "_law_char"]
theorem st__law_is_number {a0 : Sl} : startS N__law_is_number [a0] = [some a0, none] := rfl
theorem sc__law_is_number : FnScope N__law_is_number ["_law_word_here"] (defScope s__law_is_number) := ⟨rfl, rfl, rfl, by decide +kernel, rfl, by decide +kernel, by decide +kernel⟩
abbrev s_indent_of : Stmt := topS 12
abbrev N_indent_of : List Str := ["runs", "tail", "run"]
theorem st_indent_of {a0 a1 : Sl} : startS N_indent_of [a0, a1] = [some a0, some a1, none] := rfl
theorem sc_indent_of : FnScope N_indent_of ["runs", "tail"] (defScope s_indent_of) := ⟨rfl, rfl, rfl, by decide +kernel, rfl, by decide +kernel, by decide +kernel⟩
abbrev s_next_state : Stmt := topS 25
abbrev N_next_state : List Str := ["state", "char"]
theorem st_next_state {a0 a1 : Sl} : startS N_next_state [a0, a1] = [some a0, some a1] := rfl
theorem sc_next_state : FnScope N_next_state ["state", "char"] (defScope s_next_state) := ⟨rfl, rfl, rfl, by decide +kernel, rfl, by decide +kernel, by decide +kernel⟩
abbrev s__law_is_begun : Stmt := topS 32
abbrev N__law_is_begun : List Str := ["_law_text_here", "_law_words", "_law_head", "_law_mark", "_law_rest", "_law_odd", "_law_word_here"]
theorem st__law_is_begun {a0 : Sl} : startS N__law_is_begun [a0] = [some a0, none, none, none, none, none, none] := rfl
theorem sc__law_is_begun : FnScope N__law_is_begun ["_law_text_here"] (defScope s__law_is_begun) := ⟨rfl, rfl, rfl, by decide +kernel, rfl, by decide +kernel, by decide +kernel⟩
abbrev s__law_word : Stmt := topS 34
abbrev N__law_word : List Str := ["_law_pen_here", "_law_pick"]
theorem st__law_word {a0 : Sl} : startS N__law_word [a0] = [some a0, none] := rfl
theorem sc__law_word : FnScope N__law_word ["_law_pen_here"] (defScope s__law_word) := ⟨rfl, rfl, rfl, by decide +kernel, rfl, by decide +kernel, by decide +kernel⟩
abbrev s__law_bent : Stmt := topS 36
abbrev N__law_bent : List Str := ["_law_pen_here", "_law_text_here", "_law_kind", "_law_at", "_law_some", "_law_char"]
theorem st__law_bent {a0 a1 : Sl} : startS N__law_bent [a0, a1] = [some a0, some a1, none, none, none, none] := rfl
theorem sc__law_bent : FnScope N__law_bent ["_law_pen_here", "_law_text_here"] (defScope s__law_bent) := ⟨rfl, rfl, rfl, by decide +kernel, rfl, by decide +kernel, by decide +kernel⟩
abbrev s_first_fault : Stmt := topS 26
abbrev N_first_fault : List Str := ["text", "state", "at", "char"]
theorem st_first_fault {a0 : Sl} : startS N_first_fault [a0] = [some a0, none, none, none] := rfl
theorem sc_first_fault : FnScope N_first_fault ["text"] (defScope s_first_fault) := ⟨rfl, rfl, rfl, by decide +kernel, rfl, by decide +kernel, by decide +kernel⟩
abbrev s__law_due : Stmt := topS 33
abbrev N__law_due : List Str := ["_law_text_here", "_law_at", "_law_head", "_law_mark", "_law_rest", "_law_lengths", "_law_size", "_law_word_here", "_law_many"]
theorem st__law_due {a0 : Sl} : startS N__law_due [a0] = [some a0, none, none, none, none, none, none, none, none] := rfl
theorem sc__law_due : FnScope N__law_due ["_law_text_here"] (defScope s__law_due) := ⟨rfl, rfl, rfl, by decide +kernel, rfl, by decide +kernel, by decide +kernel⟩
abbrev s__law_text : Stmt := topS 35
abbrev N__law_text : List Str := ["_law_pen_here", "_law_kind", "_law_tail_word", "_law_found", "_law_k"]
theorem st__law_text {a0 : Sl} : startS N__law_text [a0] = [some a0, none, none, none, none] := rfl
theorem sc__law_text : FnScope N__law_text ["_law_pen_here"] (defScope s__law_text) := ⟨rfl, rfl, rfl, by decide +kernel, rfl, by decide +kernel, by decide +kernel⟩
abbrev s_parse_indent : Stmt := topS 27
abbrev N_parse_indent : List Str := ["text", "fault", "written", "spaces", "lengths", "word"]
theorem st_parse_indent {a0 : Sl} : startS N_parse_indent [a0] = [some a0, none, none, none, none, none] := rfl
theorem sc_parse_indent : FnScope N_parse_indent ["text"] (defScope s_parse_indent) := ⟨rfl, rfl, rfl, by decide +kernel, rfl, by decide +kernel, by decide +kernel⟩
abbrev s__law_heard : Stmt := topS 37
abbrev N__law_heard : List Str := ["_law_thing", "_law_caught", "error"]
theorem st__law_heard {a0 : Sl} : startS N__law_heard [a0] = [some a0, none, none] := rfl
theorem sc__law_heard : FnScope N__law_heard ["_law_thing"] (defScope s__law_heard) := ⟨rfl, rfl, rfl, by decide +kernel, rfl, by decide +kernel, by decide +kernel⟩
abbrev s_law : Stmt := topS 38
abbrev N_law : List Str := ["_law_script", "_law_pen_here", "_law_turn", "_law_text_here", "_law_once", "_law_twice", "_law_some", "_law_odd"]
theorem st_law {a0 : Sl} : startS N_law [a0] = [some a0, none, none, none, none, none, none, none] := rfl
theorem sc_law : FnScope N_law ["_law_script"] (defScope s_law) := ⟨rfl, rfl, rfl, by decide +kernel, rfl, by decide +kernel, by decide +kernel⟩
structure Tx (K : Frag) (mg : Str → Option Value) (f_need_characters f_number_state f__law_pen f__law_draw f__law_is_number f_indent_of f_next_state f__law_is_begun f__law_word f__law_bent f_first_fault f__law_due f__law_text f_parse_indent f__law_heard f_law : Addr) (fd_need_characters fd_number_state fd__law_pen fd__law_draw fd__law_is_number fd_indent_of fd_next_state fd__law_is_begun fd__law_word fd__law_bent fd_first_fault fd__law_due fd__law_text fd_parse_indent fd__law_heard fd_law : FuncData) : Prop where
  d_need_characters : FAt K mg "need_characters" s_need_characters ["length"] f_need_characters fd_need_characters
  d_number_state : FAt K mg "number_state" s_number_state ["char", "zero", "other"] f_number_state fd_number_state
  d__law_pen : FAt K mg "_law_pen" s__law_pen ["_law_script"] f__law_pen fd__law_pen
  d__law_draw : FAt K mg "_law_draw" s__law_draw ["_law_pen_here", "_law_many"] f__law_draw fd__law_draw
  d__law_is_number : FAt K mg "_law_is_number" s__law_is_number ["_law_word_here"] f__law_is_number fd__law_is_number
  d_indent_of : FAt K mg "indent_of" s_indent_of ["runs", "tail"] f_indent_of fd_indent_of
  d_next_state : FAt K mg "next_state" s_next_state ["state", "char"] f_next_state fd_next_state
  d__law_is_begun : FAt K mg "_law_is_begun" s__law_is_begun ["_law_text_here"] f__law_is_begun fd__law_is_begun
  d__law_word : FAt K mg "_law_word" s__law_word ["_law_pen_here"] f__law_word fd__law_word
  d__law_bent : FAt K mg "_law_bent" s__law_bent ["_law_pen_here", "_law_text_here"] f__law_bent fd__law_bent
  d_first_fault : FAt K mg "first_fault" s_first_fault ["text"] f_first_fault fd_first_fault
  d__law_due : FAt K mg "_law_due" s__law_due ["_law_text_here"] f__law_due fd__law_due
  d__law_text : FAt K mg "_law_text" s__law_text ["_law_pen_here"] f__law_text fd__law_text
  d_parse_indent : FAt K mg "parse_indent" s_parse_indent ["text"] f_parse_indent fd_parse_indent
  d__law_heard : FAt K mg "_law_heard" s__law_heard ["_law_thing"] f__law_heard fd__law_heard
  d_law : FAt K mg "law" s_law ["_law_script"] f_law fd_law
  b_abs : mg "abs" = none
  b_enumerate : mg "enumerate" = none
  b_int : mg "int" = none
  b_isinstance : mg "isinstance" = none
  b_len : mg "len" = none
  b_list : mg "list" = none
  b_range : mg "range" = none
  b_repr : mg "repr" = none
  b_str : mg "str" = none
  b_sum : mg "sum" = none
  c_FINAL : ∃ a, mg "FINAL" = some (.ref a) ∧ KwT K a [V.str "zero tail", V.str "tail"]
  xr : XRel K mg ["TooLong", "InvalidNotation"] ["InvalidNotation", "TooLong", "BadDedent", "InvalidText", "InvalidTokens", "UnknownCommand", "TooMany", "PrismError", "ValueError"] ["length", "at"]
  ek : XEk K ["InvalidNotation"]
  mk_TooLong : Mk1 K mg "TooLong" "length"
  mk_InvalidNotation : Mk1 K mg "InvalidNotation" "at"
  c_BARE : ∃ t, mg "BARE" = some (.str "bare" t)
  c_DIGITS : ∃ t, mg "DIGITS" = some (.str "0123456789" t)
  c_MOST_CHARACTERS : ∃ t, mg "MOST_CHARACTERS" = some (.int 1000 t)
  c_PLUS : ∃ t, mg "PLUS" = some (.str "plus" t)
  c_POINT : ∃ t, mg "POINT" = some (.str "point" t)
  c_RUN : ∃ t, mg "RUN" = some (.str "run" t)
  c_START : ∃ t, mg "START" = some (.str "start" t)
  c_TAIL : ∃ t, mg "TAIL" = some (.str "tail" t)
  c_ZERO_RUN : ∃ t, mg "ZERO_RUN" = some (.str "zero run" t)
  c_ZERO_TAIL : ∃ t, mg "ZERO_TAIL" = some (.str "zero tail" t)
variable {P : Program} {w : World} {K : Frag} {mg : Str → Option Value} {base : Heap} {f_need_characters f_number_state f__law_pen f__law_draw f__law_is_number f_indent_of f_next_state f__law_is_begun f__law_word f__law_bent f_first_fault f__law_due f__law_text f_parse_indent f__law_heard f_law : Addr} {fd_need_characters fd_number_state fd__law_pen fd__law_draw fd__law_is_number fd_indent_of fd_next_state fd__law_is_begun fd__law_word fd__law_bent fd_first_fault fd__law_due fd__law_text fd_parse_indent fd__law_heard fd_law : FuncData}
def sp_law : DSp := sp1 fun a cs Q Ed => ∃ ns, a = .f ns ∧ cs = [] ∧ Q (.d (.bool true)) []
theorem sp_ok : ∀ ns : List Int, ns.length ≤ 63 → (∀ z ∈ ns, Builtin.Int.intBits z ≤ 1048576) → sp_law [.f ns] [] (fun s _ => s = .d (.bool true)) fun _ _ _ => False := fun ns _ _ => ⟨ns, rfl, rfl, rfl⟩
def F_need_characters : FDX := fun ss K R => match ss with
  | [.d (.int n)] => (0 ≤ n) ∧ ((n ≤ 1000 → K .none) ∧ (1000 < n → R "TooLong" [("length", .int n)]))
  | _ => False
theorem fo_need_characters : FOkX F_need_characters 1 := ⟨fun ss k r h => by unfold F_need_characters at h; split at h <;> first | exact ⟨rfl, rfl⟩ | exact h.elim, fun ss k k1 r r1 m mr h => by
  unfold F_need_characters at h; split at h
  · exact ⟨h.1, by have h2 := h.2; revert h2; clear h; intro h2; first | exact m _ h2 | exact mr _ _ h2 | exact ⟨fun a => m _ (h2.1 a), fun a => mr _ _ (h2.2 a)⟩ | exact ⟨fun f e => m _ (h2.1 f e), fun f e => m _ (h2.2 f e)⟩ | (intros; apply m; apply h2 <;> assumption) | (obtain h2 := h2; split at h2 <;> split <;> first | exact m _ h2 | exact mr _ _ h2 | exact ⟨fun a => m _ (h2.1 a), fun a => mr _ _ (h2.2 a)⟩ | simp_all) | simp_all | grind⟩
  · exact h.elim⟩
abbrev sp_need_characters : DSp := spX F_need_characters
theorem ho_need_characters {N : List Str} {m : Nat} {τ : DS} (h : ∀ (n : Int) (Qd : DK) (Ed : DXF), (0 ≤ n) → ((n ≤ 1000 → (fun d => Qd (.d d) []) .none) ∧ (1000 < n → (fun c fs => Ed c fs []) "TooLong" [("length", .int n)])) → τ (endX Qd Ed) (startS N [.d (.int n)]) []) : ∀ (ss : List Sl) (cs : Sto) (Qd : DK) (Ed : DXF), spX F_need_characters ss cs Qd Ed → ss.length = m → cs.length = 0 ∧ τ (endX Qd Ed) (startS N ss) cs := hX fun ss Qd Ed w => by
  unfold F_need_characters at w; split at w
  · exact h _ Qd Ed w.1 w.2
  · exact w.elim
def F_number_state : FD := fun ss K => match ss with
  | [.d (.str z), .d (.str a), .d (.str b)] => (∃ c i j, z = ⟨#[c]⟩ ∧ i < 8 ∧ j < 8 ∧ a = stN i ∧ b = stN j ∧ c < 0x110000) ∧ (K (ntD (nmQ ((tl z).headD 0) (stC a) (stC b))))
  | _ => False
theorem fo_number_state : FOk F_number_state 3 := ⟨fun ss k h => by unfold F_number_state at h; split at h <;> first | exact ⟨rfl, rfl⟩ | exact h.elim, fun ss k k1 m h => by
  unfold F_number_state at h; split at h
  · exact ⟨h.1, by have h2 := h.2; revert h2; clear h; intro h2; first | exact m _ h2 | exact ⟨fun f e => m _ (h2.1 f e), fun f e => m _ (h2.2 f e)⟩ | (intros; apply m; apply h2 <;> assumption) | (obtain h2 := h2; split at h2 <;> split <;> first | exact m _ h2 | simp_all) | simp_all | grind⟩
  · exact h.elim⟩
abbrev sp_number_state : DSp := spF F_number_state
theorem ho_number_state {N : List Str} {m : Nat} {τ : DS} (h : ∀ (z a b : Str) (Qd : DK), (∃ c i j, z = ⟨#[c]⟩ ∧ i < 8 ∧ j < 8 ∧ a = stN i ∧ b = stN j ∧ c < 0x110000) → ((fun d => Qd (.d d) []) (ntD (nmQ ((tl z).headD 0) (stC a) (stC b)))) → τ (end0 Qd) (startS N [.d (.str z), .d (.str a), .d (.str b)]) []) : ∀ (ss : List Sl) (cs : Sto) (Qd : DK) (Ed : DXF), spF F_number_state ss cs Qd Ed → ss.length = m → cs.length = 0 ∧ τ (end0 Qd) (startS N ss) cs := hF fun ss Qd w => by
  unfold F_number_state at w; split at w
  · exact h _ _ _ Qd w.1 w.2
  · exact w.elim
abbrev sp__law_pen := sp_pen
def F__law_draw : FD := fun ss K => match ss with
  | [.d (.int m)] => (0 < m ∧ m < 2 ^ 240) ∧ (∀ r : Int, 0 ≤ r → r < m → K (.int r))
  | _ => False
theorem fo__law_draw : FOk F__law_draw 1 := ⟨fun ss k h => by unfold F__law_draw at h; split at h <;> first | exact ⟨rfl, rfl⟩ | exact h.elim, fun ss k k1 m h => by
  unfold F__law_draw at h; split at h
  · exact ⟨h.1, by have h2 := h.2; revert h2; clear h; intro h2; first | exact m _ h2 | exact ⟨fun f e => m _ (h2.1 f e), fun f e => m _ (h2.2 f e)⟩ | (intros; apply m; apply h2 <;> assumption) | (obtain h2 := h2; split at h2 <;> split <;> first | exact m _ h2 | simp_all) | simp_all | grind⟩
  · exact h.elim⟩
abbrev sp__law_draw : DSp := spQ 1 F__law_draw
theorem ho__law_draw {N : List Str} {m : Nat} {τ : DS} (h : ∀ (m : Int) (c : Ct) (n : Nat) (Qd : DK), Pen n c → n + 1 ≤ 1000000 → (0 < m ∧ m < 2 ^ 240) → (∀ r : Int, 0 ≤ r → r < m → (fun d => ∀ c', Pen (n + 1) c' → Qd (.d d) [c']) (.int r)) → τ (end1 Qd) (startS N [.o 0, .d (.int m)]) [c]) : ∀ (ss : List Sl) (cs : Sto) (Qd : DK) (Ed : DXF), spQ 1 F__law_draw ss cs Qd Ed → ss.length = m → cs.length = 1 ∧ τ (end1 Qd) (startS N ss) cs := hQ fun ss c n Qd p hn w => by
  unfold F__law_draw at w; split at w
  · exact h _ c n Qd p hn w.1 w.2
  · exact w.elim
def F__law_is_number : FD := fun ss K => match ss with
  | [.d (.str z)] => (z.length ≤ 100000 ∧ PyData.strOk z = true) ∧ (K (.bool (isN (tl z))))
  | _ => False
theorem fo__law_is_number : FOk F__law_is_number 1 := ⟨fun ss k h => by unfold F__law_is_number at h; split at h <;> first | exact ⟨rfl, rfl⟩ | exact h.elim, fun ss k k1 m h => by
  unfold F__law_is_number at h; split at h
  · exact ⟨h.1, by have h2 := h.2; revert h2; clear h; intro h2; first | exact m _ h2 | exact ⟨fun f e => m _ (h2.1 f e), fun f e => m _ (h2.2 f e)⟩ | (intros; apply m; apply h2 <;> assumption) | (obtain h2 := h2; split at h2 <;> split <;> first | exact m _ h2 | simp_all) | simp_all | grind⟩
  · exact h.elim⟩
abbrev sp__law_is_number : DSp := spF F__law_is_number
theorem ho__law_is_number {N : List Str} {m : Nat} {τ : DS} (h : ∀ (z : Str) (Qd : DK), (z.length ≤ 100000 ∧ PyData.strOk z = true) → ((fun d => Qd (.d d) []) (.bool (isN (tl z)))) → τ (end0 Qd) (startS N [.d (.str z)]) []) : ∀ (ss : List Sl) (cs : Sto) (Qd : DK) (Ed : DXF), spF F__law_is_number ss cs Qd Ed → ss.length = m → cs.length = 0 ∧ τ (end0 Qd) (startS N ss) cs := hF fun ss Qd w => by
  unfold F__law_is_number at w; split at w
  · exact h _ Qd w.1 w.2
  · exact w.elim
def F_indent_of : FDX := fun ss K R => match ss with
  | [.d x, .d (.int m)] => (preD x m) ∧ ((szD x m ≤ 1000 → K (stD x m)) ∧ (1000 < szD x m → R "TooLong" [("length", .int (szD x m))]))
  | _ => False
theorem fo_indent_of : FOkX F_indent_of 2 := ⟨fun ss k r h => by unfold F_indent_of at h; split at h <;> first | exact ⟨rfl, rfl⟩ | exact h.elim, fun ss k k1 r r1 m mr h => by
  unfold F_indent_of at h; split at h
  · exact ⟨h.1, by have h2 := h.2; revert h2; clear h; intro h2; first | exact m _ h2 | exact mr _ _ h2 | exact ⟨fun a => m _ (h2.1 a), fun a => mr _ _ (h2.2 a)⟩ | exact ⟨fun f e => m _ (h2.1 f e), fun f e => m _ (h2.2 f e)⟩ | (intros; apply m; apply h2 <;> assumption) | (obtain h2 := h2; split at h2 <;> split <;> first | exact m _ h2 | exact mr _ _ h2 | exact ⟨fun a => m _ (h2.1 a), fun a => mr _ _ (h2.2 a)⟩ | simp_all) | simp_all | grind⟩
  · exact h.elim⟩
abbrev sp_indent_of : DSp := spX F_indent_of
theorem ho_indent_of {N : List Str} {m : Nat} {τ : DS} (h : ∀ (x : PyData) (m : Int) (Qd : DK) (Ed : DXF), (preD x m) → ((szD x m ≤ 1000 → (fun d => Qd (.d d) []) (stD x m)) ∧ (1000 < szD x m → (fun c fs => Ed c fs []) "TooLong" [("length", .int (szD x m))])) → τ (endX Qd Ed) (startS N [.d x, .d (.int m)]) []) : ∀ (ss : List Sl) (cs : Sto) (Qd : DK) (Ed : DXF), spX F_indent_of ss cs Qd Ed → ss.length = m → cs.length = 0 ∧ τ (endX Qd Ed) (startS N ss) cs := hX fun ss Qd Ed w => by
  unfold F_indent_of at w; split at w
  · exact h _ _ Qd Ed w.1 w.2
  · exact w.elim
def F_next_state : FD := fun ss K => match ss with
  | [.d (.str a), .d (.str z)] => (∃ c i, z = ⟨#[c]⟩ ∧ i < 8 ∧ a = stN i ∧ c < 0x110000) ∧ (K (ntD (nxQ (stC a) ((tl z).headD 0))))
  | _ => False
theorem fo_next_state : FOk F_next_state 2 := ⟨fun ss k h => by unfold F_next_state at h; split at h <;> first | exact ⟨rfl, rfl⟩ | exact h.elim, fun ss k k1 m h => by
  unfold F_next_state at h; split at h
  · exact ⟨h.1, by have h2 := h.2; revert h2; clear h; intro h2; first | exact m _ h2 | exact ⟨fun f e => m _ (h2.1 f e), fun f e => m _ (h2.2 f e)⟩ | (intros; apply m; apply h2 <;> assumption) | (obtain h2 := h2; split at h2 <;> split <;> first | exact m _ h2 | simp_all) | simp_all | grind⟩
  · exact h.elim⟩
abbrev sp_next_state : DSp := spF F_next_state
theorem ho_next_state {N : List Str} {m : Nat} {τ : DS} (h : ∀ (a z : Str) (Qd : DK), (∃ c i, z = ⟨#[c]⟩ ∧ i < 8 ∧ a = stN i ∧ c < 0x110000) → ((fun d => Qd (.d d) []) (ntD (nxQ (stC a) ((tl z).headD 0)))) → τ (end0 Qd) (startS N [.d (.str a), .d (.str z)]) []) : ∀ (ss : List Sl) (cs : Sto) (Qd : DK) (Ed : DXF), spF F_next_state ss cs Qd Ed → ss.length = m → cs.length = 0 ∧ τ (end0 Qd) (startS N ss) cs := hF fun ss Qd w => by
  unfold F_next_state at w; split at w
  · exact h _ _ Qd w.1 w.2
  · exact w.elim
def F__law_is_begun : FD := fun ss K => match ss with
  | [.d (.str z)] => (z.length ≤ 100000 ∧ PyData.strOk z = true) ∧ (K (.bool (begB (tl z))))
  | _ => False
theorem fo__law_is_begun : FOk F__law_is_begun 1 := ⟨fun ss k h => by unfold F__law_is_begun at h; split at h <;> first | exact ⟨rfl, rfl⟩ | exact h.elim, fun ss k k1 m h => by
  unfold F__law_is_begun at h; split at h
  · exact ⟨h.1, by have h2 := h.2; revert h2; clear h; intro h2; first | exact m _ h2 | exact ⟨fun f e => m _ (h2.1 f e), fun f e => m _ (h2.2 f e)⟩ | (intros; apply m; apply h2 <;> assumption) | (obtain h2 := h2; split at h2 <;> split <;> first | exact m _ h2 | simp_all) | simp_all | grind⟩
  · exact h.elim⟩
abbrev sp__law_is_begun : DSp := spF F__law_is_begun
theorem ho__law_is_begun {N : List Str} {m : Nat} {τ : DS} (h : ∀ (z : Str) (Qd : DK), (z.length ≤ 100000 ∧ PyData.strOk z = true) → ((fun d => Qd (.d d) []) (.bool (begB (tl z)))) → τ (end0 Qd) (startS N [.d (.str z)]) []) : ∀ (ss : List Sl) (cs : Sto) (Qd : DK) (Ed : DXF), spF F__law_is_begun ss cs Qd Ed → ss.length = m → cs.length = 0 ∧ τ (end0 Qd) (startS N ss) cs := hF fun ss Qd w => by
  unfold F__law_is_begun at w; split at w
  · exact h _ Qd w.1 w.2
  · exact w.elim
def F__law_word : FD := fun ss K => match ss with
  | [] => (True) ∧ (∀ z : Str, z.length ≤ 190 → PyData.strOk z = true → K (.str z))
  | _ => False
theorem fo__law_word : FOk F__law_word 0 := ⟨fun ss k h => by unfold F__law_word at h; split at h <;> first | exact ⟨rfl, rfl⟩ | exact h.elim, fun ss k k1 m h => by
  unfold F__law_word at h; split at h
  · exact ⟨h.1, by have h2 := h.2; revert h2; clear h; intro h2; first | exact m _ h2 | exact ⟨fun f e => m _ (h2.1 f e), fun f e => m _ (h2.2 f e)⟩ | (intros; apply m; apply h2 <;> assumption) | (obtain h2 := h2; split at h2 <;> split <;> first | exact m _ h2 | simp_all) | simp_all | grind⟩
  · exact h.elim⟩
abbrev sp__law_word : DSp := spQ 2 F__law_word
theorem ho__law_word {N : List Str} {m : Nat} {τ : DS} (h : ∀  (c : Ct) (n : Nat) (Qd : DK), Pen n c → n + 2 ≤ 1000000 → (True) → (∀ z : Str, z.length ≤ 190 → PyData.strOk z = true → (fun d => ∀ c', Pen (n + 2) c' → Qd (.d d) [c']) (.str z)) → τ (end1 Qd) (startS N [.o 0]) [c]) : ∀ (ss : List Sl) (cs : Sto) (Qd : DK) (Ed : DXF), spQ 2 F__law_word ss cs Qd Ed → ss.length = m → cs.length = 1 ∧ τ (end1 Qd) (startS N ss) cs := hQ fun ss c n Qd p hn w => by
  unfold F__law_word at w; split at w
  · exact h  c n Qd p hn w.1 w.2
  · exact w.elim
def F__law_bent : FD := fun ss K => match ss with
  | [.d (.str z)] => (z.length ≤ 1000 ∧ PyData.strOk z = true) ∧ (∀ y : Str, y.length ≤ 3 * z.length + 2 → PyData.strOk y = true → K (.str y))
  | _ => False
theorem fo__law_bent : FOk F__law_bent 1 := ⟨fun ss k h => by unfold F__law_bent at h; split at h <;> first | exact ⟨rfl, rfl⟩ | exact h.elim, fun ss k k1 m h => by
  unfold F__law_bent at h; split at h
  · exact ⟨h.1, by have h2 := h.2; revert h2; clear h; intro h2; first | exact m _ h2 | exact ⟨fun f e => m _ (h2.1 f e), fun f e => m _ (h2.2 f e)⟩ | (intros; apply m; apply h2 <;> assumption) | (obtain h2 := h2; split at h2 <;> split <;> first | exact m _ h2 | simp_all) | simp_all | grind⟩
  · exact h.elim⟩
abbrev sp__law_bent : DSp := spQ 3 F__law_bent
theorem ho__law_bent {N : List Str} {m : Nat} {τ : DS} (h : ∀ (z : Str) (c : Ct) (n : Nat) (Qd : DK), Pen n c → n + 3 ≤ 1000000 → (z.length ≤ 1000 ∧ PyData.strOk z = true) → (∀ y : Str, y.length ≤ 3 * z.length + 2 → PyData.strOk y = true → (fun d => ∀ c', Pen (n + 3) c' → Qd (.d d) [c']) (.str y)) → τ (end1 Qd) (startS N [.o 0, .d (.str z)]) [c]) : ∀ (ss : List Sl) (cs : Sto) (Qd : DK) (Ed : DXF), spQ 3 F__law_bent ss cs Qd Ed → ss.length = m → cs.length = 1 ∧ τ (end1 Qd) (startS N ss) cs := hQ fun ss c n Qd p hn w => by
  unfold F__law_bent at w; split at w
  · exact h _ c n Qd p hn w.1 w.2
  · exact w.elim
def F_first_fault : FD := fun ss K => match ss with
  | [.d (.str z)] => (z.length ≤ 100000 ∧ PyData.strOk z = true) ∧ (K (atD (ffQ (tl z))))
  | _ => False
theorem fo_first_fault : FOk F_first_fault 1 := ⟨fun ss k h => by unfold F_first_fault at h; split at h <;> first | exact ⟨rfl, rfl⟩ | exact h.elim, fun ss k k1 m h => by
  unfold F_first_fault at h; split at h
  · exact ⟨h.1, by have h2 := h.2; revert h2; clear h; intro h2; first | exact m _ h2 | exact ⟨fun f e => m _ (h2.1 f e), fun f e => m _ (h2.2 f e)⟩ | (intros; apply m; apply h2 <;> assumption) | (obtain h2 := h2; split at h2 <;> split <;> first | exact m _ h2 | simp_all) | simp_all | grind⟩
  · exact h.elim⟩
abbrev sp_first_fault : DSp := spF F_first_fault
theorem ho_first_fault {N : List Str} {m : Nat} {τ : DS} (h : ∀ (z : Str) (Qd : DK), (z.length ≤ 100000 ∧ PyData.strOk z = true) → ((fun d => Qd (.d d) []) (atD (ffQ (tl z)))) → τ (end0 Qd) (startS N [.d (.str z)]) []) : ∀ (ss : List Sl) (cs : Sto) (Qd : DK) (Ed : DXF), spF F_first_fault ss cs Qd Ed → ss.length = m → cs.length = 0 ∧ τ (end0 Qd) (startS N ss) cs := hF fun ss Qd w => by
  unfold F_first_fault at w; split at w
  · exact h _ Qd w.1 w.2
  · exact w.elim
def F__law_due : FD := fun ss K => match ss with
  | [.d (.str z)] => (z.length ≤ 640 ∧ PyData.strOk z = true) ∧ (K (duQ z))
  | _ => False
theorem fo__law_due : FOk F__law_due 1 := ⟨fun ss k h => by unfold F__law_due at h; split at h <;> first | exact ⟨rfl, rfl⟩ | exact h.elim, fun ss k k1 m h => by
  unfold F__law_due at h; split at h
  · exact ⟨h.1, by have h2 := h.2; revert h2; clear h; intro h2; first | exact m _ h2 | exact ⟨fun f e => m _ (h2.1 f e), fun f e => m _ (h2.2 f e)⟩ | (intros; apply m; apply h2 <;> assumption) | (obtain h2 := h2; split at h2 <;> split <;> first | exact m _ h2 | simp_all) | simp_all | grind⟩
  · exact h.elim⟩
abbrev sp__law_due : DSp := spF F__law_due
theorem ho__law_due {N : List Str} {m : Nat} {τ : DS} (h : ∀ (z : Str) (Qd : DK), (z.length ≤ 640 ∧ PyData.strOk z = true) → ((fun d => Qd (.d d) []) (duQ z)) → τ (end0 Qd) (startS N [.d (.str z)]) []) : ∀ (ss : List Sl) (cs : Sto) (Qd : DK) (Ed : DXF), spF F__law_due ss cs Qd Ed → ss.length = m → cs.length = 0 ∧ τ (end0 Qd) (startS N ss) cs := hF fun ss Qd w => by
  unfold F__law_due at w; split at w
  · exact h _ Qd w.1 w.2
  · exact w.elim
def F__law_text : FD := fun ss K => match ss with
  | [] => (True) ∧ (∀ z : Str, z.length ≤ 200 → PyData.strOk z = true → K (.str z))
  | _ => False
theorem fo__law_text : FOk F__law_text 0 := ⟨fun ss k h => by unfold F__law_text at h; split at h <;> first | exact ⟨rfl, rfl⟩ | exact h.elim, fun ss k k1 m h => by
  unfold F__law_text at h; split at h
  · exact ⟨h.1, by have h2 := h.2; revert h2; clear h; intro h2; first | exact m _ h2 | exact ⟨fun f e => m _ (h2.1 f e), fun f e => m _ (h2.2 f e)⟩ | (intros; apply m; apply h2 <;> assumption) | (obtain h2 := h2; split at h2 <;> split <;> first | exact m _ h2 | simp_all) | simp_all | grind⟩
  · exact h.elim⟩
abbrev sp__law_text : DSp := spQ 12 F__law_text
theorem ho__law_text {N : List Str} {m : Nat} {τ : DS} (h : ∀  (c : Ct) (n : Nat) (Qd : DK), Pen n c → n + 12 ≤ 1000000 → (True) → (∀ z : Str, z.length ≤ 200 → PyData.strOk z = true → (fun d => ∀ c', Pen (n + 12) c' → Qd (.d d) [c']) (.str z)) → τ (end1 Qd) (startS N [.o 0]) [c]) : ∀ (ss : List Sl) (cs : Sto) (Qd : DK) (Ed : DXF), spQ 12 F__law_text ss cs Qd Ed → ss.length = m → cs.length = 1 ∧ τ (end1 Qd) (startS N ss) cs := hQ fun ss c n Qd p hn w => by
  unfold F__law_text at w; split at w
  · exact h  c n Qd p hn w.1 w.2
  · exact w.elim
def F_parse_indent : FDX := fun ss K R => match ss with
  | [.d d] => (∀ z, d = .str z → z.length ≤ 100000 ∧ PyData.strOk z = true ∧ ∀ rs t, tl z = shQ rs t → (∀ r ∈ rs, (numL r).length ≤ 640) ∧ (numL t).length ≤ 640) ∧ (match pnA d with | .ok x => K x | .err c fs => R c fs)
  | _ => False
theorem fo_parse_indent : FOkX F_parse_indent 1 := ⟨fun ss k r h => by unfold F_parse_indent at h; split at h <;> first | exact ⟨rfl, rfl⟩ | exact h.elim, fun ss k k1 r r1 m mr h => by
  unfold F_parse_indent at h; split at h
  · exact ⟨h.1, by have h2 := h.2; revert h2; clear h; intro h2; first | exact m _ h2 | exact mr _ _ h2 | exact ⟨fun a => m _ (h2.1 a), fun a => mr _ _ (h2.2 a)⟩ | exact ⟨fun f e => m _ (h2.1 f e), fun f e => m _ (h2.2 f e)⟩ | (intros; apply m; apply h2 <;> assumption) | (obtain h2 := h2; split at h2 <;> split <;> first | exact m _ h2 | exact mr _ _ h2 | exact ⟨fun a => m _ (h2.1 a), fun a => mr _ _ (h2.2 a)⟩ | simp_all) | simp_all | grind⟩
  · exact h.elim⟩
abbrev sp_parse_indent : DSp := spX F_parse_indent
theorem ho_parse_indent {N : List Str} {m : Nat} {τ : DS} (h : ∀ (d : PyData) (Qd : DK) (Ed : DXF), (∀ z, d = .str z → z.length ≤ 100000 ∧ PyData.strOk z = true ∧ ∀ rs t, tl z = shQ rs t → (∀ r ∈ rs, (numL r).length ≤ 640) ∧ (numL t).length ≤ 640) → (match pnA d with | .ok x => (fun d => Qd (.d d) []) x | .err c fs => (fun c fs => Ed c fs []) c fs) → τ (endX Qd Ed) (startS N [.d d]) []) : ∀ (ss : List Sl) (cs : Sto) (Qd : DK) (Ed : DXF), spX F_parse_indent ss cs Qd Ed → ss.length = m → cs.length = 0 ∧ τ (endX Qd Ed) (startS N ss) cs := hX fun ss Qd Ed w => by
  unfold F_parse_indent at w; split at w
  · exact h _ Qd Ed w.1 w.2
  · exact w.elim
def F__law_heard : FD := fun ss K => match ss with
  | [.d d] => (∀ z, d = .str z → z.length ≤ 640 ∧ PyData.strOk z = true) ∧ (K (heQ d))
  | _ => False
theorem fo__law_heard : FOk F__law_heard 1 := ⟨fun ss k h => by unfold F__law_heard at h; split at h <;> first | exact ⟨rfl, rfl⟩ | exact h.elim, fun ss k k1 m h => by
  unfold F__law_heard at h; split at h
  · exact ⟨h.1, by have h2 := h.2; revert h2; clear h; intro h2; first | exact m _ h2 | exact ⟨fun f e => m _ (h2.1 f e), fun f e => m _ (h2.2 f e)⟩ | (intros; apply m; apply h2 <;> assumption) | (obtain h2 := h2; split at h2 <;> split <;> first | exact m _ h2 | simp_all) | simp_all | grind⟩
  · exact h.elim⟩
abbrev sp__law_heard : DSp := spF F__law_heard
theorem ho__law_heard {N : List Str} {m : Nat} {τ : DS} (h : ∀ (d : PyData) (Qd : DK), (∀ z, d = .str z → z.length ≤ 640 ∧ PyData.strOk z = true) → ((fun d => Qd (.d d) []) (heQ d)) → τ (end0 Qd) (startS N [.d d]) []) : ∀ (ss : List Sl) (cs : Sto) (Qd : DK) (Ed : DXF), spF F__law_heard ss cs Qd Ed → ss.length = m → cs.length = 0 ∧ τ (end0 Qd) (startS N ss) cs := hF fun ss Qd w => by
  unfold F__law_heard at w; split at w
  · exact h _ Qd w.1 w.2
  · exact w.elim
local macro_rules | `(tactic| nofun) => `(tactic| try simp -implicitDefEqProofs only [↓Pz.wC_ap, ↓Pz.wVar_ap, ↓Pz.wOp_ap, ↓Pz.wTest_ap, ↓Pz.wNil_ap, ↓Pz.wCons_ap, ↓Pz.wCall_ap, ↓Pz.wCallW_ap, ↓Pz.wApp_ap, ↓Pz.wLst_ap, ↓Pz.wTup_ap, ↓Pz.wLstO_ap, ↓Pz.wNoPart_ap, ↓Pz.wPart_ap, ↓Pz.wSl_ap, ↓Pz.wAnd_ap, ↓Pz.wOr_ap, ↓Pz.wNot_ap, ↓Pz.wAndV_ap, ↓Pz.wOrV_ap, ↓Pz.wNotV_ap, ↓Pz.wIfE_ap, ↓Pz.wTru_ap, ↓Pz.wChain_ap, ↓Pz.wNeg_ap, ↓Pz.wAug_ap, ↓Pz.gNm_ap, ↓Pz.gNl_ap, ↓Pz.gCn_ap, ↓Pz.gTp_ap, ↓Pz.wAsg_ap, ↓Pz.wItE_ap, ↓Pz.wRng1_ap, ↓Pz.wRng2_ap, ↓Pz.wYes_ap, ↓Pz.wLc_ap, ↓Pz.wLcO_ap, ↓Pz.wBM_ap, ↓Pz.wSetIx_ap, ↓Pz.wFrz_ap, ↓Pz.wCallF_ap, ↓Pz.wCallQ_ap, ↓Pz.wCallWF_ap, ↓Pz.wRev_ap, ↓Pz.wRg1_ap, ↓Pz.wRg2_ap, ↓Pz.wListRg_ap, ↓Pz.wRng3_ap, ↓Pz.wEnum_ap, ↓Pz.wZip_ap, ↓Pz.wCallQO_ap, ↓Pz.wDPut_ap, ↓Pz.wPNil_ap, ↓Pz.wPCons_ap, ↓Pz.wDisp_ap, ↓Pz.wDNew_ap, ↓Pz.wDNil_ap, ↓Pz.wEnumX_ap, ↓Pz.wCallE_ap, ↓Pz.wSlO_ap, ↓Pz.wEnumY_ap, ↓Pz.wDGet2_ap, ↓Pz.wMaxDf_ap, ↓Pz.wCallFO_ap, ↓Pz.wRevY_ap, ↓Pz.wFrzX_ap, ↓Pz.wSwp_ap, ↓Pz.wCallX_ap, ↓Pz.wCallXO_ap, ↓Pz.wCallWX_ap, ↓Pz.wRaise1_ap, ↓Pz.wRaise0_ap, ↓Pz.wTry_ap, ↓Pz.wIsE_ap, ↓Pz.wXf_ap, ↓Pz.wDispD_ap, ↓Pz.wSortLen_ap, ↓Pz.wGGet_ap, ↓Pz.wMinDf_ap, ↓Pz.wPar_ap, ↓Pz.wLam_ap, ↓Pz.wAct_ap, ↓Pz.wRep_ap, ↓Pz.wZipM_ap, ↓Pz.wZipN_ap, ↓Pz.wLenSet_ap, ↓Pz.wBor_ap, ↓Pz.gTpL_ap, ↓Pz.wTupRg_ap, ↓Pz.wRevS_ap, ↓Pz.wFmt_ap, ↓Pz.wJoined_ap, ↓Pz.wAsgS_ap, ↓Pz.wPar3_ap, ↓Pz.wDc_ap, ↓Pz.wDcT_ap, ↓Pz.wDGet3_ap, ↓Pz.wListV_ap, ↓Pz.wSumV_ap, ↓Pz.wDIn_ap, ↓Pz.wTGet2_ap, ↓Pz.wTPut_ap, ↓Pz.wDAug_ap, ↓Pz.wFrzL_ap, ↓Pz.wItV_ap, ↓Pz.wItI_ap, ↓Pz.wItK_ap, ↓Pz.wDisp1_ap, ↓Pz.wBorD_ap, ↓Pz.wDNewT_ap, ↓Pz.wCallFD_ap, ↓Pz.wDNew_ap, ↓Pz.wItC_ap, ↓Pz.wCallXE_ap, ↓Pz.wTSetd_ap, ↓Pz.wListRgO_ap, ↓Pz.wTryC_ap, ↓Pz.wTry2_ap, ↓Pz.wRepl_ap, ↓Pz.wMinLen_ap, ↓Pz.wDNewN_ap, ↓Pz.wNSetd_ap, ↓Pz.wFrzN_ap, Pz.setAll, ↓Pz.wClose_ap, ↓Pz.wSetIxO_ap, ↓Pz.oIxS_ap, ↓Pz.wRaise3_ap, ↓Pz.oMulT_ap, Pz.dkX, Pz.unKD_kdD, Option.isSome_some, ↓Pz.wOrX_apS, ↓Pz.wAndX_apS, ↓Pz.orP_str, Pz.orP_some, Pz.orP_none, ↓oTGet, ↓oLtS, ↓oLtT, ↓fListKy, ↓fSortKy, ↓fLenD_o, ↓Pz.aFD, Pz.unD_K, Pz.unD_T, Pz.kyS_t, Pz.keysL_nil, Pz.keysL_ci, Pz.keysL_cs, ↓Pz.dtAt_o, Pz.dtAt_L, ↓Pz.dkAny_o, Pz.dkAny_D, Pz.dkAny_L, ↓Pz.dvAt_o, Pz.dvAt_D, Pz.dvAt_L, Pz.dvAt_T, ↓Pz.dkyS_o, Pz.dkyS_D, Pz.dkyS_L, Pz.dkyS_T, ↓Pz.dinS_o, Pz.dinS_D, Pz.dinS_L, Pz.dinS_T, Pz.lkP_K, Pz.lkP_T, Pz.lkV_K, Pz.lkV_T, Pz.lkV_N, ↓Pz.dnAt_o, Pz.oK_n, Pz.oK_i, ↓ret1_dT, cl_dt, Pz.lkOf_K, Pz.lkOf_T, Pz.xor_f, Pz.xor_t, Pz.hasD_int, Option.bind, Option.bind_some, List.set, ↓seq_mk, ↓wTrim_mk, trimS, List.take_succ_cons, List.take_zero, Nat.reduceLT, ↓nx_mk, ↓set_mk, ↓if_mk, nthS, ↓oEq, ↓oNe, vw, ↓oAdd, ↓oSub, ↓oIadd, ↓oDGet, keyOf_str, keyOf_int, keyS_str, keyS_int, ↓dkAt_o, valE_cells, valE_at, valE_left, putE_at, putE_left, mergeE, mergeD1, kvD1, keyD_s, keyD_i, ret1_dE, cl_dk, ↓fIsi, ↓fDivmod, ↓fStr, Pz.okT_int, Pz.is_int_none, Pz.is_int_bool, Pz.is_int_int, Pz.is_int_str, Pz.is_int_list, Pz.is_int_tuple, Pz.is_int_dict, Pz.okT_bool, Pz.is_bool_none, Pz.is_bool_bool, Pz.is_bool_int, Pz.is_bool_str, Pz.is_bool_list, Pz.is_bool_tuple, Pz.is_bool_dict, Pz.okT_str, Pz.is_str_none, Pz.is_str_bool, Pz.is_str_int, Pz.is_str_str, Pz.is_str_list, Pz.is_str_tuple, Pz.is_str_dict, Pz.okT_tuple, Pz.is_tuple_none, Pz.is_tuple_bool, Pz.is_tuple_int, Pz.is_tuple_str, Pz.is_tuple_list, Pz.is_tuple_tuple, Pz.is_tuple_dict, Pz.okT_list, Pz.is_list_none, Pz.is_list_bool, Pz.is_list_int, Pz.is_list_str, Pz.is_list_list, Pz.is_list_tuple, Pz.is_list_dict, Pz.is_dict_none, Pz.is_dict_bool, Pz.is_dict_int, Pz.is_dict_str, Pz.is_dict_list, Pz.is_dict_tuple, Pz.is_dict_dict, ↓oFdiv, ↓oMod, ↓oMul, ↓oPow, ↓oBool, ↓oII, ↓oIsN, ↓oNotN, ↓oIn, ↓oInX, ↓oInQ, ↓oInT, ↓oIsB, ↓oIsBN, ↓oNotB, noneS, ↓ret_mk, ↓retN_mk, ↓bk_mk, ↓ct_mk, ↓expr_mk, ↓for_mk, truD, ↓oIxE, ↓mPopAt, ↓mIndex, ↓mInsert, ↓fIntS, ↓fStrN, ↓Pz.wJs_cons, ↓Pz.wJs_nil, at0, at1, at2, at3, ix10, ix20, ix21, ix30, ix31, ix32, Pz.len1, Pz.len2, Pz.len3, List.length_nil, List.length_cons, sh_int, sh_bl, sh_non, Int.reduceEq, reduceCtorEq, decide_true, decide_false, sh_nil, eqv_nn, eqv_nilL, List.isEmpty_map, sh_lit, List.flatten_replicate_singleton, List.length_replicate, eqv_int, Nat.zero_le, szL, Nat.reduceLeDiff, Nat.reduceAdd, ↓ret1_d, ↓ret1_o0, ↓ret1_o1, ↓ret1_o2, ↓ret0_o0, ↓ret_d, cl_lst, true_and, and_true, decide_eq_true_eq, ↓oSl, ↓oSlO, ↓fLen, ↓fAbs, ↓fInt, ↓fMaxE, ↓fMinE, ↓fSumE, ↓Pz.fSumL, ↓fAll, ↓fAny, ↓fList, ↓fListO, ↓fListE, ↓fListEO, ↓fTuple, ↓fSortedE, ↓fSortedS, ↓fSortedG, ↓Pz.fSortedGO, ↓fRep, ↓fRepX, ↓fRepZ, ↓fRepW, ↓fBool, vwJ_l, vwJ_t, vwS_l, vwS_t, vwB, dsOf, tyD, ↓mAppend, ↓mExtend, ↓mPop, ↓mReverse, ↓mSplit, ↓mSplitO, ↓mStrip, ↓mLstrip, ↓mRstrip, ↓mStr2, ↓mPart, ↓mJoinE, frzS, frzX, ↓excOf_o, Pz.excOf_d, ↓oDGetX, List.map_cons, List.map_nil, List.getElem?_cons_zero, List.getElem?_cons_succ, List.cons_append, List.nil_append, Bool.false_eq_true, Bool.true_eq_false, ↓reduceIte, p10_3, p10_6, p10_7, p10_9, p10_12, Option.map, ↓aQ, ↓aQO, ↓aFO, borS, atomD, ↓aXO, ↓oAddO, ↓oMulO, Option.some.injEq, exists_eq_left', exists_and_left, datO, datQ_d, ↓mCount, ↓mCountS, Bool.not_true, Bool.not_false, ↓F_need_characters, ↓F_indent_of, ↓F_number_state, ↓F_next_state, ↓F_first_fault, ↓F_parse_indent, ↓F__law_draw, ↓F__law_is_number, ↓F__law_is_begun, ↓F__law_due, ↓F__law_word, ↓F__law_text, ↓F__law_bent, ↓F__law_heard]) | `(tactic| subst_eqs) => `(tactic| simp -implicitDefEqProofs only [↓Pz.wC_ap, ↓Pz.wVar_ap, ↓Pz.wOp_ap, ↓Pz.wTest_ap, ↓Pz.wNil_ap, ↓Pz.wCons_ap, ↓Pz.wCall_ap, ↓Pz.wCallW_ap, ↓Pz.wApp_ap, ↓Pz.wLst_ap, ↓Pz.wTup_ap, ↓Pz.wLstO_ap, ↓Pz.wNoPart_ap, ↓Pz.wPart_ap, ↓Pz.wSl_ap, ↓Pz.wAnd_ap, ↓Pz.wOr_ap, ↓Pz.wNot_ap, ↓Pz.wAndV_ap, ↓Pz.wOrV_ap, ↓Pz.wNotV_ap, ↓Pz.wIfE_ap, ↓Pz.wTru_ap, ↓Pz.wChain_ap, ↓Pz.wNeg_ap, ↓Pz.wAug_ap, ↓Pz.gNm_ap, ↓Pz.gNl_ap, ↓Pz.gCn_ap, ↓Pz.gTp_ap, ↓Pz.wAsg_ap, ↓Pz.wItE_ap, ↓Pz.wRng1_ap, ↓Pz.wRng2_ap, ↓Pz.wYes_ap, ↓Pz.wLc_ap, ↓Pz.wLcO_ap, ↓Pz.wBM_ap, ↓Pz.wSetIx_ap, ↓Pz.wFrz_ap, ↓Pz.wCallF_ap, ↓Pz.wCallQ_ap, ↓Pz.wCallWF_ap, ↓Pz.wRev_ap, ↓Pz.wRg1_ap, ↓Pz.wRg2_ap, ↓Pz.wListRg_ap, ↓Pz.wRng3_ap, ↓Pz.wEnum_ap, ↓Pz.wZip_ap, ↓Pz.wCallQO_ap, ↓Pz.wDPut_ap, ↓Pz.wPNil_ap, ↓Pz.wPCons_ap, ↓Pz.wDisp_ap, ↓Pz.wDNew_ap, ↓Pz.wDNil_ap, ↓Pz.wEnumX_ap, ↓Pz.wCallE_ap, ↓Pz.wSlO_ap, ↓Pz.wEnumY_ap, ↓Pz.wDGet2_ap, ↓Pz.wMaxDf_ap, ↓Pz.wCallFO_ap, ↓Pz.wRevY_ap, ↓Pz.wFrzX_ap, ↓Pz.wSwp_ap, ↓Pz.wCallX_ap, ↓Pz.wCallXO_ap, ↓Pz.wCallWX_ap, ↓Pz.wRaise1_ap, ↓Pz.wRaise0_ap, ↓Pz.wTry_ap, ↓Pz.wIsE_ap, ↓Pz.wXf_ap, ↓Pz.wDispD_ap, ↓Pz.wSortLen_ap, ↓Pz.wGGet_ap, ↓Pz.wMinDf_ap, ↓Pz.wPar_ap, ↓Pz.wLam_ap, ↓Pz.wAct_ap, ↓Pz.wRep_ap, ↓Pz.wZipM_ap, ↓Pz.wZipN_ap, ↓Pz.wLenSet_ap, ↓Pz.wBor_ap, ↓Pz.gTpL_ap, ↓Pz.wTupRg_ap, ↓Pz.wRevS_ap, ↓Pz.wFmt_ap, ↓Pz.wJoined_ap, ↓Pz.wAsgS_ap, ↓Pz.wPar3_ap, ↓Pz.wDc_ap, ↓Pz.wDcT_ap, ↓Pz.wDGet3_ap, ↓Pz.wListV_ap, ↓Pz.wSumV_ap, ↓Pz.wDIn_ap, ↓Pz.wTGet2_ap, ↓Pz.wTPut_ap, ↓Pz.wDAug_ap, ↓Pz.wFrzL_ap, ↓Pz.wItV_ap, ↓Pz.wItI_ap, ↓Pz.wItK_ap, ↓Pz.wDisp1_ap, ↓Pz.wBorD_ap, ↓Pz.wDNewT_ap, ↓Pz.wCallFD_ap, ↓Pz.wDNew_ap, ↓Pz.wItC_ap, ↓Pz.wCallXE_ap, ↓Pz.wTSetd_ap, ↓Pz.wListRgO_ap, ↓Pz.wTryC_ap, ↓Pz.wTry2_ap, ↓Pz.wRepl_ap, ↓Pz.wMinLen_ap, ↓Pz.wDNewN_ap, ↓Pz.wNSetd_ap, ↓Pz.wFrzN_ap, Pz.setAll, ↓Pz.wClose_ap, ↓Pz.wSetIxO_ap, ↓Pz.oIxS_ap, ↓Pz.wRaise3_ap, ↓Pz.oMulT_ap, Pz.dkX, Pz.unKD_kdD, Option.isSome_some, ↓Pz.wOrX_apS, ↓Pz.wAndX_apS, ↓Pz.orP_str, Pz.orP_some, Pz.orP_none, ↓oTGet, ↓oLtS, ↓oLtT, ↓fListKy, ↓fSortKy, ↓fLenD_o, ↓Pz.aFD, Pz.unD_K, Pz.unD_T, Pz.kyS_t, Pz.keysL_nil, Pz.keysL_ci, Pz.keysL_cs, ↓Pz.dtAt_o, Pz.dtAt_L, ↓Pz.dkAny_o, Pz.dkAny_D, Pz.dkAny_L, ↓Pz.dvAt_o, Pz.dvAt_D, Pz.dvAt_L, Pz.dvAt_T, ↓Pz.dkyS_o, Pz.dkyS_D, Pz.dkyS_L, Pz.dkyS_T, ↓Pz.dinS_o, Pz.dinS_D, Pz.dinS_L, Pz.dinS_T, Pz.lkP_K, Pz.lkP_T, Pz.lkV_K, Pz.lkV_T, Pz.lkV_N, ↓Pz.dnAt_o, Pz.oK_n, Pz.oK_i, ↓ret1_dT, cl_dt, Pz.lkOf_K, Pz.lkOf_T, Pz.xor_f, Pz.xor_t, Pz.hasD_int, Option.bind, Option.bind_some, List.set, ↓wTrim_mk, trimS, List.take_succ_cons, List.take_zero, Nat.reduceLT, ↓nx_mk, ↓set_mk, ↓if_mk, nthS, ↓oEq, ↓oNe, vw, ↓oAdd, ↓oSub, ↓oIadd, ↓oDGet, keyOf_str, keyOf_int, keyS_str, keyS_int, ↓dkAt_o, valE_cells, valE_at, valE_left, putE_at, putE_left, mergeE, mergeD1, kvD1, keyD_s, keyD_i, ret1_dE, cl_dk, ↓fIsi, ↓fDivmod, ↓fStr, Pz.okT_int, Pz.is_int_none, Pz.is_int_bool, Pz.is_int_int, Pz.is_int_str, Pz.is_int_list, Pz.is_int_tuple, Pz.is_int_dict, Pz.okT_bool, Pz.is_bool_none, Pz.is_bool_bool, Pz.is_bool_int, Pz.is_bool_str, Pz.is_bool_list, Pz.is_bool_tuple, Pz.is_bool_dict, Pz.okT_str, Pz.is_str_none, Pz.is_str_bool, Pz.is_str_int, Pz.is_str_str, Pz.is_str_list, Pz.is_str_tuple, Pz.is_str_dict, Pz.okT_tuple, Pz.is_tuple_none, Pz.is_tuple_bool, Pz.is_tuple_int, Pz.is_tuple_str, Pz.is_tuple_list, Pz.is_tuple_tuple, Pz.is_tuple_dict, Pz.okT_list, Pz.is_list_none, Pz.is_list_bool, Pz.is_list_int, Pz.is_list_str, Pz.is_list_list, Pz.is_list_tuple, Pz.is_list_dict, Pz.is_dict_none, Pz.is_dict_bool, Pz.is_dict_int, Pz.is_dict_str, Pz.is_dict_list, Pz.is_dict_tuple, Pz.is_dict_dict, ↓oFdiv, ↓oMod, ↓oMul, ↓oPow, ↓oBool, ↓oII, ↓oIsN, ↓oNotN, ↓oIn, ↓oInX, ↓oInQ, ↓oInT, ↓oIsB, ↓oIsBN, ↓oNotB, noneS, ↓ret_mk, ↓retN_mk, ↓bk_mk, ↓ct_mk, ↓expr_mk, ↓for_mk, truD, ↓oIxE, ↓mPopAt, ↓mIndex, ↓mInsert, ↓fIntS, ↓fStrN, ↓Pz.wJs_cons, ↓Pz.wJs_nil, at0, at1, at2, at3, ix10, ix20, ix21, ix30, ix31, ix32, Pz.len1, Pz.len2, Pz.len3, List.length_nil, List.length_cons, sh_int, sh_bl, sh_non, Int.reduceEq, reduceCtorEq, decide_true, decide_false, sh_nil, eqv_nn, eqv_nilL, List.isEmpty_map, sh_lit, List.flatten_replicate_singleton, List.length_replicate, eqv_int, Nat.zero_le, szL, Nat.reduceLeDiff, Nat.reduceAdd, ↓ret1_d, ↓ret1_o0, ↓ret1_o1, ↓ret1_o2, ↓ret0_o0, ↓ret_d, cl_lst, true_and, and_true, decide_eq_true_eq, ↓oSl, ↓oSlO, ↓fLen, ↓fAbs, ↓fInt, ↓fMaxE, ↓fMinE, ↓fSumE, ↓Pz.fSumL, ↓fAll, ↓fAny, ↓fList, ↓fListO, ↓fListE, ↓fListEO, ↓fTuple, ↓fSortedE, ↓fSortedS, ↓fSortedG, ↓Pz.fSortedGO, ↓fRep, ↓fRepX, ↓fRepZ, ↓fRepW, ↓fBool, vwJ_l, vwJ_t, vwS_l, vwS_t, vwB, dsOf, tyD, ↓mAppend, ↓mExtend, ↓mPop, ↓mReverse, ↓mSplit, ↓mSplitO, ↓mStrip, ↓mLstrip, ↓mRstrip, ↓mStr2, ↓mPart, ↓mJoinE, frzS, frzX, ↓excOf_o, Pz.excOf_d, ↓oDGetX, List.map_cons, List.map_nil, List.getElem?_cons_zero, List.getElem?_cons_succ, List.cons_append, List.nil_append, Bool.false_eq_true, Bool.true_eq_false, ↓reduceIte, p10_3, p10_6, p10_7, p10_9, p10_12, Option.map, ↓aQ, ↓aQO, ↓aFO, borS, atomD, ↓aXO, ↓oAddO, ↓oMulO, Option.some.injEq, exists_eq_left', exists_and_left, datO, datQ_d, ↓mCount, ↓mCountS, Bool.not_true, Bool.not_false, ↓F_need_characters, ↓F_indent_of, ↓F_number_state, ↓F_next_state, ↓F_first_fault, ↓F_parse_indent, ↓F__law_draw, ↓F__law_is_number, ↓F__law_is_begun, ↓F__law_due, ↓F__law_word, ↓F__law_text, ↓F__law_bent, ↓F__law_heard]) | `(tactic| subst_vars) => `(tactic| simp -implicitDefEqProofs only [wipeS, ↓Pz.wC_ap, ↓Pz.wVar_ap, ↓Pz.wOp_ap, ↓Pz.wTest_ap, ↓Pz.wNil_ap, ↓Pz.wCons_ap, ↓Pz.wCall_ap, ↓Pz.wCallW_ap, ↓Pz.wApp_ap, ↓Pz.wLst_ap, ↓Pz.wTup_ap, ↓Pz.wLstO_ap, ↓Pz.wNoPart_ap, ↓Pz.wPart_ap, ↓Pz.wSl_ap, ↓Pz.wAnd_ap, ↓Pz.wOr_ap, ↓Pz.wNot_ap, ↓Pz.wAndV_ap, ↓Pz.wOrV_ap, ↓Pz.wNotV_ap, ↓Pz.wIfE_ap, ↓Pz.wTru_ap, ↓Pz.wChain_ap, ↓Pz.wNeg_ap, ↓Pz.wAug_ap, ↓Pz.gNm_ap, ↓Pz.gNl_ap, ↓Pz.gCn_ap, ↓Pz.gTp_ap, ↓Pz.wAsg_ap, ↓Pz.wItE_ap, ↓Pz.wRng1_ap, ↓Pz.wRng2_ap, ↓Pz.wYes_ap, ↓Pz.wLc_ap, ↓Pz.wLcO_ap, ↓Pz.wBM_ap, ↓Pz.wSetIx_ap, ↓Pz.wFrz_ap, ↓Pz.wCallF_ap, ↓Pz.wCallQ_ap, ↓Pz.wCallWF_ap, ↓Pz.wRev_ap, ↓Pz.wRg1_ap, ↓Pz.wRg2_ap, ↓Pz.wListRg_ap, ↓Pz.wRng3_ap, ↓Pz.wEnum_ap, ↓Pz.wZip_ap, ↓Pz.wCallQO_ap, ↓Pz.wDPut_ap, ↓Pz.wPNil_ap, ↓Pz.wPCons_ap, ↓Pz.wDisp_ap, ↓Pz.wDNew_ap, ↓Pz.wDNil_ap, ↓Pz.wEnumX_ap, ↓Pz.wCallE_ap, ↓Pz.wSlO_ap, ↓Pz.wEnumY_ap, ↓Pz.wDGet2_ap, ↓Pz.wMaxDf_ap, ↓Pz.wCallFO_ap, ↓Pz.wRevY_ap, ↓Pz.wFrzX_ap, ↓Pz.wSwp_ap, ↓Pz.wCallX_ap, ↓Pz.wCallXO_ap, ↓Pz.wCallWX_ap, ↓Pz.wRaise1_ap, ↓Pz.wRaise0_ap, ↓Pz.wTry_ap, ↓Pz.wIsE_ap, ↓Pz.wXf_ap, ↓Pz.wDispD_ap, ↓Pz.wSortLen_ap, ↓Pz.wGGet_ap, ↓Pz.wMinDf_ap, ↓Pz.wPar_ap, ↓Pz.wLam_ap, ↓Pz.wAct_ap, ↓Pz.wRep_ap, ↓Pz.wZipM_ap, ↓Pz.wZipN_ap, ↓Pz.wLenSet_ap, ↓Pz.wBor_ap, ↓Pz.gTpL_ap, ↓Pz.wTupRg_ap, ↓Pz.wRevS_ap, ↓Pz.wFmt_ap, ↓Pz.wJoined_ap, ↓Pz.wAsgS_ap, ↓Pz.wPar3_ap, ↓Pz.wDc_ap, ↓Pz.wDcT_ap, ↓Pz.wDGet3_ap, ↓Pz.wListV_ap, ↓Pz.wSumV_ap, ↓Pz.wDIn_ap, ↓Pz.wTGet2_ap, ↓Pz.wTPut_ap, ↓Pz.wDAug_ap, ↓Pz.wFrzL_ap, ↓Pz.wItV_ap, ↓Pz.wItI_ap, ↓Pz.wItK_ap, ↓Pz.wDisp1_ap, ↓Pz.wBorD_ap, ↓Pz.wDNewT_ap, ↓Pz.wCallFD_ap, ↓Pz.wDNew_ap, ↓Pz.wItC_ap, ↓Pz.wCallXE_ap, ↓Pz.wTSetd_ap, ↓Pz.wListRgO_ap, ↓Pz.wTryC_ap, ↓Pz.wTry2_ap, ↓Pz.wRepl_ap, ↓Pz.wMinLen_ap, ↓Pz.wDNewN_ap, ↓Pz.wNSetd_ap, ↓Pz.wFrzN_ap, Pz.setAll, ↓Pz.wClose_ap, ↓Pz.wSetIxO_ap, ↓Pz.oIxS_ap, ↓Pz.wRaise3_ap, ↓Pz.oMulT_ap, Pz.dkX, Pz.unKD_kdD, Option.isSome_some, ↓Pz.wOrX_apS, ↓Pz.wAndX_apS, ↓Pz.orP_str, Pz.orP_some, Pz.orP_none, ↓oTGet, ↓oLtS, ↓oLtT, ↓fListKy, ↓fSortKy, ↓fLenD_o, ↓Pz.aFD, Pz.unD_K, Pz.unD_T, Pz.kyS_t, Pz.keysL_nil, Pz.keysL_ci, Pz.keysL_cs, ↓Pz.dtAt_o, Pz.dtAt_L, ↓Pz.dkAny_o, Pz.dkAny_D, Pz.dkAny_L, ↓Pz.dvAt_o, Pz.dvAt_D, Pz.dvAt_L, Pz.dvAt_T, ↓Pz.dkyS_o, Pz.dkyS_D, Pz.dkyS_L, Pz.dkyS_T, ↓Pz.dinS_o, Pz.dinS_D, Pz.dinS_L, Pz.dinS_T, Pz.lkP_K, Pz.lkP_T, Pz.lkV_K, Pz.lkV_T, Pz.lkV_N, ↓Pz.dnAt_o, Pz.oK_n, Pz.oK_i, ↓ret1_dT, cl_dt, Pz.lkOf_K, Pz.lkOf_T, Pz.xor_f, Pz.xor_t, Pz.hasD_int, Option.bind, Option.bind_some, List.set, ↓seq_mk, ↓wTrim_mk, trimS, List.take_succ_cons, List.take_zero, Nat.reduceLT, ↓nx_mk, ↓set_mk, ↓if_mk, nthS, ↓oEq, ↓oNe, vw, ↓oAdd, ↓oSub, ↓oIadd, ↓oDGet, keyOf_str, keyOf_int, keyS_str, keyS_int, ↓dkAt_o, valE_cells, valE_at, valE_left, putE_at, putE_left, mergeE, mergeD1, kvD1, keyD_s, keyD_i, ret1_dE, cl_dk, ↓fIsi, ↓fDivmod, ↓fStr, Pz.okT_int, Pz.is_int_none, Pz.is_int_bool, Pz.is_int_int, Pz.is_int_str, Pz.is_int_list, Pz.is_int_tuple, Pz.is_int_dict, Pz.okT_bool, Pz.is_bool_none, Pz.is_bool_bool, Pz.is_bool_int, Pz.is_bool_str, Pz.is_bool_list, Pz.is_bool_tuple, Pz.is_bool_dict, Pz.okT_str, Pz.is_str_none, Pz.is_str_bool, Pz.is_str_int, Pz.is_str_str, Pz.is_str_list, Pz.is_str_tuple, Pz.is_str_dict, Pz.okT_tuple, Pz.is_tuple_none, Pz.is_tuple_bool, Pz.is_tuple_int, Pz.is_tuple_str, Pz.is_tuple_list, Pz.is_tuple_tuple, Pz.is_tuple_dict, Pz.okT_list, Pz.is_list_none, Pz.is_list_bool, Pz.is_list_int, Pz.is_list_str, Pz.is_list_list, Pz.is_list_tuple, Pz.is_list_dict, Pz.is_dict_none, Pz.is_dict_bool, Pz.is_dict_int, Pz.is_dict_str, Pz.is_dict_list, Pz.is_dict_tuple, Pz.is_dict_dict, ↓oFdiv, ↓oMod, ↓oMul, ↓oPow, ↓oBool, ↓oII, ↓oIsN, ↓oNotN, ↓oIn, ↓oInX, ↓oInQ, ↓oInT, ↓oIsB, ↓oIsBN, ↓oNotB, noneS, ↓ret_mk, ↓retN_mk, ↓bk_mk, ↓ct_mk, ↓expr_mk, ↓for_mk, truD, ↓oIxE, ↓mPopAt, ↓mIndex, ↓mInsert, ↓fIntS, ↓fStrN, ↓Pz.wJs_cons, ↓Pz.wJs_nil, at0, at1, at2, at3, ix10, ix20, ix21, ix30, ix31, ix32, Pz.len1, Pz.len2, Pz.len3, List.length_nil, List.length_cons, sh_int, sh_bl, sh_non, Int.reduceEq, reduceCtorEq, decide_true, decide_false, sh_nil, eqv_nn, eqv_nilL, List.isEmpty_map, sh_lit, List.flatten_replicate_singleton, List.length_replicate, eqv_int, Nat.zero_le, szL, Nat.reduceLeDiff, Nat.reduceAdd, ↓ret1_d, ↓ret1_o0, ↓ret1_o1, ↓ret1_o2, ↓ret0_o0, ↓ret_d, cl_lst, true_and, and_true, decide_eq_true_eq, ↓oSl, ↓oSlO, ↓fLen, ↓fAbs, ↓fInt, ↓fMaxE, ↓fMinE, ↓fSumE, ↓Pz.fSumL, ↓fAll, ↓fAny, ↓fList, ↓fListO, ↓fListE, ↓fListEO, ↓fTuple, ↓fSortedE, ↓fSortedS, ↓fSortedG, ↓Pz.fSortedGO, ↓fRep, ↓fRepX, ↓fRepZ, ↓fRepW, ↓fBool, vwJ_l, vwJ_t, vwS_l, vwS_t, vwB, dsOf, tyD, ↓mAppend, ↓mExtend, ↓mPop, ↓mReverse, ↓mSplit, ↓mSplitO, ↓mStrip, ↓mLstrip, ↓mRstrip, ↓mStr2, ↓mPart, ↓mJoinE, frzS, frzX, ↓excOf_o, Pz.excOf_d, ↓oDGetX, List.map_cons, List.map_nil, List.getElem?_cons_zero, List.getElem?_cons_succ, List.cons_append, List.nil_append, Bool.false_eq_true, Bool.true_eq_false, ↓reduceIte, p10_3, p10_6, p10_7, p10_9, p10_12, Option.map, ↓aQ, ↓aQO, ↓aFO, borS, atomD, ↓aXO, ↓oAddO, ↓oMulO, Option.some.injEq, exists_eq_left', exists_and_left, datO, datQ_d, ↓mCount, ↓mCountS, Bool.not_true, Bool.not_false, ↓F_need_characters, ↓F_indent_of, ↓F_number_state, ↓F_next_state, ↓F_first_fault, ↓F_parse_indent, ↓F__law_draw, ↓F__law_is_number, ↓F__law_is_begun, ↓F__law_due, ↓F__law_word, ↓F__law_text, ↓F__law_bent, ↓F__law_heard])
theorem ok_need_characters (T : Tx K mg f_need_characters f_number_state f__law_pen f__law_draw f__law_is_number f_indent_of f_next_state f__law_is_begun f__law_word f__law_bent f_first_fault f__law_due f__law_text f_parse_indent f__law_heard f_law fd_need_characters fd_number_state fd__law_pen fd__law_draw fd__law_is_number fd_indent_of fd_next_state fd__law_is_begun fd__law_word fd__law_bent fd_first_fault fd__law_due fd__law_text fd_parse_indent fd__law_heard fd_law) : FnD P w K mg base (L2.CX P w) 1 f_need_characters fd_need_characters ["length"] sp_need_characters := by
  refine FnD.ofX T.d_need_characters.F sc_need_characters _ (fun cdv A outer s H E Z0 hA hr hz tk => (dss_one (ds_if (dt_cmp d2_bool op_gt (de_v 0 (pv 0)) (de_c (C8.pe_gc rfl (glI T.c_MOST_CHARACTERS)) fun _ => .int _) (nomark _)) (dss_one (ds_raise1 "length" rfl tk T.mk_TooLong hr rfl (da_cons (de_v 0 (pv 0)) da_nil))) dss_nil))) ?_
  refine ho_need_characters fun n Qd Ed h ⟨q1, q2⟩ => ?_
  try dsimp only at *
  rw [st_need_characters]
  nofun
  by_cases h6 : 1000 < n
  · rw [if_pos (by omega)]
    exact q2 h6
  · rw [if_neg (by omega)]
    exact q1 (by omega)
theorem ok_number_state (T : Tx K mg f_need_characters f_number_state f__law_pen f__law_draw f__law_is_number f_indent_of f_next_state f__law_is_begun f__law_word f__law_bent f_first_fault f__law_due f__law_text f_parse_indent f__law_heard f_law fd_need_characters fd_number_state fd__law_pen fd__law_draw fd__law_is_number fd_indent_of fd_next_state fd__law_is_begun fd__law_word fd__law_bent fd_first_fault fd__law_due fd__law_text fd_parse_indent fd__law_heard fd_law) : FnD P w K mg base CX0 1 f_number_state fd_number_state ["char", "zero", "other"] sp_number_state := by
  refine FnD.of0 T.d_number_state.F sc_number_state 0 _ (fun cdv A outer s H E Z0 hA hr hz => (dss_cons (ds_if (dt_cmp d2_ninX (op_ninX (room65 hr)) (de_v 0 (pv 0)) (de_c (C8.pe_gc rfl (glS T.c_DIGITS)) fun _ => .str _) (by with_unfolding_all rfl)) (dss_one (ds_ret de_non)) dss_nil)
      (dss_one (ds_ret (de_if (dt_cmp d2_eq (op_eqD hr.units) (de_v 0 (pv 0)) de_str (nomark _)) (de_v 1 (pv 1)) (de_v 2 (pv 2))))))) ?_
  refine ho_number_state fun z a b Qd ⟨c, i, j, hz, hi, hj, ha, hb, hc⟩ q => ?_
  try dsimp only at *
  rw [st_number_state]
  subst hz ha hb
  rw [stC_N i hi, stC_N j hj] at q
  have q : Qd (Sl.d (ntD (nmQ c i j))) [] := q
  nofun
  refine ⟨c, rfl, ?_⟩
  rw [dg_in, ch_eqv (k := 48) (by decide +kernel)]
  unfold nmQ at q
  by_cases hd : dgB c = true
  · rw [if_pos hd] at q
    rw [if_neg (by rw [hd]; decide)]
    refine ⟨sh_sign hc, ?_⟩
    by_cases h : c = 48
    · rw [if_pos h] at q
      rw [if_pos (by simpa using h)]
      exact q
    · rw [if_neg h] at q
      rw [if_neg (by simpa using h)]
      exact q
  · rw [if_neg hd] at q
    rw [if_pos (by simpa using hd)]
    exact q
theorem ok__law_pen (T : Tx K mg f_need_characters f_number_state f__law_pen f__law_draw f__law_is_number f_indent_of f_next_state f__law_is_begun f__law_word f__law_bent f_first_fault f__law_due f__law_text f_parse_indent f__law_heard f_law fd_need_characters fd_number_state fd__law_pen fd__law_draw fd__law_is_number fd_indent_of fd_next_state fd__law_is_begun fd__law_word fd__law_bent fd_first_fault fd__law_due fd__law_text fd_parse_indent fd__law_heard fd_law) : FnD P w K mg base CX0 1 f__law_pen fd__law_pen ["_law_script"] sp__law_pen := by
  refine FnD.of0 T.d__law_pen.F sc__law_pen 0 _ (fun cdv A outer s H E Z0 hA hr hz => (dss_one (ds_ret (de_lstO (da_cons (de_callTy cd_listE (call_listE rfl) rfl T.b_list (by decide +kernel) (da_cons (de_slice (de_v 0 (pv 0)) dpo_none (dpo_some de_int)) da_nil)) (da_cons de_int (da_cons de_int da_nil))))))) ?_
  refine e1 fun a cs Qd Ed => ?_
  rintro ⟨ns, rfl, rfl, q⟩
  refine ⟨rfl, ?_⟩
  simp only [st__law_pen, ↓Pz.wC_ap, ↓Pz.wVar_ap, ↓Pz.wOp_ap, ↓Pz.wTest_ap, ↓Pz.wNil_ap, ↓Pz.wCons_ap, ↓Pz.wCall_ap, ↓Pz.wCallW_ap, ↓Pz.wApp_ap, ↓Pz.wLst_ap, ↓Pz.wTup_ap, ↓Pz.wLstO_ap, ↓Pz.wNoPart_ap, ↓Pz.wPart_ap, ↓Pz.wSl_ap, ↓Pz.wAnd_ap, ↓Pz.wOr_ap, ↓Pz.wNot_ap, ↓Pz.wAndV_ap, ↓Pz.wOrV_ap, ↓Pz.wNotV_ap, ↓Pz.wIfE_ap, ↓Pz.wTru_ap, ↓Pz.wChain_ap, ↓Pz.wNeg_ap, ↓Pz.wAug_ap, ↓Pz.gNm_ap, ↓Pz.gNl_ap, ↓Pz.gCn_ap, ↓Pz.gTp_ap, ↓Pz.wAsg_ap, ↓Pz.wItE_ap, ↓Pz.wRng1_ap, ↓Pz.wRng2_ap, ↓Pz.wYes_ap, ↓Pz.wLc_ap, ↓Pz.wLcO_ap, ↓Pz.wBM_ap, ↓Pz.wSetIx_ap, ↓Pz.wFrz_ap, ↓Pz.wCallF_ap, ↓Pz.wCallQ_ap, ↓Pz.wCallWF_ap, ↓Pz.wRev_ap, ↓Pz.wRg1_ap, ↓Pz.wRg2_ap, ↓Pz.wListRg_ap, ↓Pz.wRng3_ap, ↓Pz.wEnum_ap, ↓Pz.wZip_ap, ↓Pz.wCallQO_ap, ↓Pz.wDPut_ap, ↓Pz.wPNil_ap, ↓Pz.wPCons_ap, ↓Pz.wDisp_ap, ↓Pz.wDNew_ap, ↓Pz.wDNil_ap, ↓Pz.wEnumX_ap, ↓Pz.wCallE_ap, ↓Pz.wSlO_ap, ↓Pz.wEnumY_ap, ↓Pz.wDGet2_ap, ↓Pz.wMaxDf_ap, ↓Pz.wCallFO_ap, ↓Pz.wRevY_ap, ↓Pz.wFrzX_ap, ↓Pz.wSwp_ap, ↓Pz.wCallX_ap, ↓Pz.wCallXO_ap, ↓Pz.wCallWX_ap, ↓Pz.wRaise1_ap, ↓Pz.wRaise0_ap, ↓Pz.wTry_ap, ↓Pz.wIsE_ap, ↓Pz.wXf_ap, ↓Pz.wDispD_ap, ↓Pz.wSortLen_ap, ↓Pz.wGGet_ap, ↓Pz.wMinDf_ap, ↓Pz.wPar_ap, ↓Pz.wLam_ap, ↓Pz.wAct_ap, ↓Pz.wRep_ap, ↓Pz.wZipM_ap, ↓Pz.wZipN_ap, ↓Pz.wLenSet_ap, ↓Pz.wBor_ap, ↓Pz.gTpL_ap, ↓Pz.wTupRg_ap, ↓Pz.wRevS_ap, ↓Pz.wFmt_ap, ↓Pz.wJoined_ap, ↓Pz.wAsgS_ap, ↓Pz.wPar3_ap, ↓Pz.wDc_ap, ↓Pz.wDcT_ap, ↓Pz.wDGet3_ap, ↓Pz.wListV_ap, ↓Pz.wSumV_ap, ↓Pz.wDIn_ap, ↓Pz.wTGet2_ap, ↓Pz.wTPut_ap, ↓Pz.wDAug_ap, ↓Pz.wFrzL_ap, ↓Pz.wItV_ap, ↓Pz.wItI_ap, ↓Pz.wItK_ap, ↓Pz.wDisp1_ap, ↓Pz.wBorD_ap, ↓Pz.wDNewT_ap, ↓Pz.wCallFD_ap, ↓Pz.wDNew_ap, ↓Pz.wItC_ap, ↓Pz.wCallXE_ap, ↓Pz.wTSetd_ap, ↓Pz.wListRgO_ap, ↓Pz.wTryC_ap, ↓Pz.wTry2_ap, ↓Pz.wRepl_ap, ↓Pz.wMinLen_ap, ↓Pz.wDNewN_ap, ↓Pz.wNSetd_ap, ↓Pz.wFrzN_ap, Pz.setAll, ↓Pz.wClose_ap, ↓Pz.wSetIxO_ap, ↓Pz.oIxS_ap, ↓Pz.wRaise3_ap, ↓Pz.oMulT_ap, Pz.dkX, Pz.unKD_kdD, Option.isSome_some, ↓Pz.wOrX_apS, ↓Pz.wAndX_apS, ↓Pz.orP_str, Pz.orP_some, Pz.orP_none, ↓oTGet, ↓oLtS, ↓oLtT, ↓fListKy, ↓fSortKy, ↓fLenD_o, ↓Pz.aFD, Pz.unD_K, Pz.unD_T, Pz.kyS_t, Pz.keysL_nil, Pz.keysL_ci, Pz.keysL_cs, ↓Pz.dtAt_o, Pz.dtAt_L, ↓Pz.dkAny_o, Pz.dkAny_D, Pz.dkAny_L, ↓Pz.dvAt_o, Pz.dvAt_D, Pz.dvAt_L, Pz.dvAt_T, ↓Pz.dkyS_o, Pz.dkyS_D, Pz.dkyS_L, Pz.dkyS_T, ↓Pz.dinS_o, Pz.dinS_D, Pz.dinS_L, Pz.dinS_T, Pz.lkP_K, Pz.lkP_T, Pz.lkV_K, Pz.lkV_T, Pz.lkV_N, ↓Pz.dnAt_o, Pz.oK_n, Pz.oK_i, ↓ret1_dT, cl_dt, Pz.lkOf_K, Pz.lkOf_T, Pz.xor_f, Pz.xor_t, Pz.hasD_int, Option.bind, Option.bind_some, List.set, ↓seq_mk, ↓wTrim_mk, trimS, List.take_succ_cons, List.take_zero, Nat.reduceLT, ↓nx_mk, ↓set_mk, ↓if_mk, nthS, ↓oEq, ↓oNe, vw, ↓oAdd, ↓oSub, ↓oIadd, ↓oDGet, keyOf_str, keyOf_int, keyS_str, keyS_int, ↓dkAt_o, valE_cells, valE_at, valE_left, putE_at, putE_left, mergeE, mergeD1, kvD1, keyD_s, keyD_i, ret1_dE, cl_dk, ↓fIsi, ↓fDivmod, ↓fStr, Pz.okT_int, Pz.is_int_none, Pz.is_int_bool, Pz.is_int_int, Pz.is_int_str, Pz.is_int_list, Pz.is_int_tuple, Pz.is_int_dict, Pz.okT_bool, Pz.is_bool_none, Pz.is_bool_bool, Pz.is_bool_int, Pz.is_bool_str, Pz.is_bool_list, Pz.is_bool_tuple, Pz.is_bool_dict, Pz.okT_str, Pz.is_str_none, Pz.is_str_bool, Pz.is_str_int, Pz.is_str_str, Pz.is_str_list, Pz.is_str_tuple, Pz.is_str_dict, Pz.okT_tuple, Pz.is_tuple_none, Pz.is_tuple_bool, Pz.is_tuple_int, Pz.is_tuple_str, Pz.is_tuple_list, Pz.is_tuple_tuple, Pz.is_tuple_dict, Pz.okT_list, Pz.is_list_none, Pz.is_list_bool, Pz.is_list_int, Pz.is_list_str, Pz.is_list_list, Pz.is_list_tuple, Pz.is_list_dict, Pz.is_dict_none, Pz.is_dict_bool, Pz.is_dict_int, Pz.is_dict_str, Pz.is_dict_list, Pz.is_dict_tuple, Pz.is_dict_dict, ↓oFdiv, ↓oMod, ↓oMul, ↓oPow, ↓oBool, ↓oII, ↓oIsN, ↓oNotN, ↓oIn, ↓oInX, ↓oInQ, ↓oInT, ↓oIsB, ↓oIsBN, ↓oNotB, noneS, ↓ret_mk, ↓retN_mk, ↓bk_mk, ↓ct_mk, ↓expr_mk, ↓for_mk, truD, ↓oIxE, ↓mPopAt, ↓mIndex, ↓mInsert, ↓fIntS, ↓fStrN, ↓Pz.wJs_cons, ↓Pz.wJs_nil, at0, at1, at2, at3, ix10, ix20, ix21, ix30, ix31, ix32, Pz.len1, Pz.len2, Pz.len3, List.length_nil, List.length_cons, sh_int, sh_bl, sh_non, Int.reduceEq, reduceCtorEq, decide_true, decide_false, sh_nil, eqv_nn, eqv_nilL, List.isEmpty_map, sh_lit, List.flatten_replicate_singleton, List.length_replicate, eqv_int, Nat.zero_le, szL, Nat.reduceLeDiff, Nat.reduceAdd, ↓ret1_d, ↓ret1_o0, ↓ret1_o1, ↓ret1_o2, ↓ret0_o0, ↓ret_d, cl_lst, true_and, and_true, decide_eq_true_eq, ↓oSl, ↓oSlO, ↓fLen, ↓fAbs, ↓fInt, ↓fMaxE, ↓fMinE, ↓fSumE, ↓Pz.fSumL, ↓fAll, ↓fAny, ↓fList, ↓fListO, ↓fListE, ↓fListEO, ↓fTuple, ↓fSortedE, ↓fSortedS, ↓fSortedG, ↓Pz.fSortedGO, ↓fRep, ↓fRepX, ↓fRepZ, ↓fRepW, ↓fBool, vwJ_l, vwJ_t, vwS_l, vwS_t, vwB, dsOf, tyD, ↓mAppend, ↓mExtend, ↓mPop, ↓mReverse, ↓mSplit, ↓mSplitO, ↓mStrip, ↓mLstrip, ↓mRstrip, ↓mStr2, ↓mPart, ↓mJoinE, frzS, frzX, ↓excOf_o, Pz.excOf_d, ↓oDGetX, List.map_cons, List.map_nil, List.getElem?_cons_zero, List.getElem?_cons_succ, List.cons_append, List.nil_append, Bool.false_eq_true, Bool.true_eq_false, ↓reduceIte, p10_3, p10_6, p10_7, p10_9, p10_12, Option.map, ↓aQ, ↓aQO, ↓aFO, borS, atomD, ↓aXO, ↓oAddO, ↓oMulO, Option.some.injEq, exists_eq_left', exists_and_left, datO, datQ_d, ↓mCount, ↓mCountS, Bool.not_true, Bool.not_false, ↓F_need_characters, ↓F_indent_of, ↓F_number_state, ↓F_next_state, ↓F_first_fault, ↓F_parse_indent, ↓F__law_draw, ↓F__law_is_number, ↓F__law_is_begun, ↓F__law_due, ↓F__law_word, ↓F__law_text, ↓F__law_bent, ↓F__law_heard]
  refine q _ ⟨_, 0, 0, rfl, ?_, by omega, by omega, by omega⟩
  rw [show Pz.cutD ns none (some 63) = (ns.drop 0).take (HT.sIx ns.length ns.length (some 63) - 0) from rfl, List.length_take]
  have : HT.sIx ns.length ns.length (some 63) ≤ 63 := by
    simp [HT.sIx]
    omega
  omega
theorem ok__law_draw (T : Tx K mg f_need_characters f_number_state f__law_pen f__law_draw f__law_is_number f_indent_of f_next_state f__law_is_begun f__law_word f__law_bent f_first_fault f__law_due f__law_text f_parse_indent f__law_heard f_law fd_need_characters fd_number_state fd__law_pen fd__law_draw fd__law_is_number fd_indent_of fd_next_state fd__law_is_begun fd__law_word fd__law_bent fd_first_fault fd__law_due fd__law_text fd_parse_indent fd__law_heard fd_law) : FnD P w K mg base CX0 1 f__law_draw fd__law_draw ["_law_pen_here", "_law_many"] sp__law_draw := by
  refine FnD.of0 T.d__law_draw.F sc__law_draw 1 _ (fun cdv A outer s H E Z0 hA hr hz => (dss_cons (ds_if (dt_cmp d2_bool op_gt (de_ixE (de_v 0 (pv 0)) de_int) de_int (nomark _)) (dss_cons (ds_set 5 sc__law_draw.nd (de_op d2_mod op_mod (de_ixE (de_v 0 (pv 0)) de_int) (de_v 1 (pv 1))))
      (dss_cons (ds_setIx (de_op d2_fdiv op_fdivW (de_ixE (de_v 0 (pv 0)) de_int) (de_v 1 (pv 1))) (de_v 0 (pv 0)) de_int)
      (dss_one (ds_ret (de_v 5 (pv 5)))))) dss_nil)
      (dss_cons (ds_set 2 sc__law_draw.nd (de_ixE (de_v 0 (pv 0)) de_int))
      (dss_cons (ds_setIx (de_op d2_add op_addR (de_v 2 (pv 2)) de_int) (de_v 0 (pv 0)) de_int)
      (dss_cons (ds_set 3 sc__law_draw.nd (de_op d2_add op_addR (de_op d2_mul op_mulR de_int (de_v 2 (pv 2))) de_int))
      (dss_cons (ds_if (dt_cmp d2_ne (op_neD hr.units) (de_ixE (de_v 0 (pv 0)) de_int) (de_lst da_nil) (nomark _)) (dss_one (ds_set 3 sc__law_draw.nd (de_ixE (de_ixE (de_v 0 (pv 0)) de_int) (de_op d2_mod op_mod (de_v 2 (pv 2)) (de_callB cd_len call_len rfl T.b_len (by decide +kernel) (da_cons (de_ixE (de_v 0 (pv 0)) de_int) da_nil)))))) dss_nil)
      (dss_cons (ds_if (DWs.dt (dw_and (dt_cmp d2_bool op_lt (de_v 2 (pv 2)) (de_callB cd_len call_len rfl T.b_len (by decide +kernel) (da_cons (de_ixE (de_v 0 (pv 0)) de_int) da_nil)) (nomark _)) (dw_and1 (dt_cmp d2_bool op_ge (de_callB cd_abs call_abs rfl T.b_abs (by decide +kernel) (da_cons (de_v 3 (pv 3)) da_nil)) (de_op d2_pow op_pow de_int de_int) (nomark _))))) (dss_cons (ds_set 6 sc__law_draw.nd (de_op d2_add op_addR (de_op d2_mul op_mulR de_int (de_callB cd_abs call_abs rfl T.b_abs (by decide +kernel) (da_cons (de_v 3 (pv 3)) da_nil))) (de_callTy cd_int call_int1 rfl T.b_int (by decide +kernel) (da_cons (de_cmp d2_bool op_lt (de_v 3 (pv 3)) de_int (nomark _)) da_nil))))
      (dss_cons (ds_setIx (de_op d2_fdiv op_fdivW (de_v 6 (pv 6)) (de_v 1 (pv 1))) (de_v 0 (pv 0)) de_int)
      (dss_one (ds_ret (de_op d2_mod op_mod (de_v 6 (pv 6)) (de_v 1 (pv 1))))))) dss_nil)
      (dss_cons (ds_set 4 sc__law_draw.nd (de_op d2_mod op_mod (de_op d2_pow op_pow (de_op d2_add op_addR (de_op d2_add op_addR (de_op d2_mod op_mod (de_v 3 (pv 3)) de_int) (de_op d2_mul op_mulR de_int (de_v 2 (pv 2)))) de_int) de_int) de_int))
      (dss_cons (ds_set 4 sc__law_draw.nd (de_op d2_mod op_mod (de_op d2_pow op_pow (de_op d2_add op_addR (de_op d2_add op_addR (de_op d2_mul op_mulR (de_v 4 (pv 4)) (de_op d2_add op_addR (de_v 2 (pv 2)) de_int)) (de_op d2_mul op_mulR (de_op d2_mul op_mulR de_int (de_v 2 (pv 2))) (de_v 2 (pv 2)))) de_int) de_int) de_int))
      (dss_one (ds_ret (de_op d2_mod op_mod (de_op d2_fdiv op_fdivW (de_v 4 (pv 4)) de_int) (de_v 1 (pv 1)))))))))))))) ?_
  refine ho__law_draw fun m c n Qd p hn ⟨h6, h7⟩ q => ?_
  obtain ⟨ds, i, l, rfl, h1, h2, h3, h4⟩ := p
  have i0 : i ≤ 1000000 := by omega
  have s1 : 0 ≤ 64007 * i * i := Int.mul_nonneg (by omega) h2
  have s2 : 64007 * i * i ≤ 64007 * 1000000 * 1000000 := Int.mul_le_mul (by omega) i0 h2 (by omega)
  have q' : ∀ j l', 0 ≤ l' → (j = i ∨ j = i + 1) → ∀ r, Qd (.d (.int (r % m))) [.lst [.list (ds.map .int), .int j, .int l']] := fun j l' z e r => q _ (Int.emod_nonneg _ (by omega)) (Int.emod_lt_of_pos _ h6) _ ⟨ds, j, l', rfl, h1, by omega, by omega, z⟩
  simp only [st__law_draw, ↓Pz.wC_ap, ↓Pz.wVar_ap, ↓Pz.wOp_ap, ↓Pz.wTest_ap, ↓Pz.wNil_ap, ↓Pz.wCons_ap, ↓Pz.wCall_ap, ↓Pz.wCallW_ap, ↓Pz.wApp_ap, ↓Pz.wLst_ap, ↓Pz.wTup_ap, ↓Pz.wLstO_ap, ↓Pz.wNoPart_ap, ↓Pz.wPart_ap, ↓Pz.wSl_ap, ↓Pz.wAnd_ap, ↓Pz.wOr_ap, ↓Pz.wNot_ap, ↓Pz.wAndV_ap, ↓Pz.wOrV_ap, ↓Pz.wNotV_ap, ↓Pz.wIfE_ap, ↓Pz.wTru_ap, ↓Pz.wChain_ap, ↓Pz.wNeg_ap, ↓Pz.wAug_ap, ↓Pz.gNm_ap, ↓Pz.gNl_ap, ↓Pz.gCn_ap, ↓Pz.gTp_ap, ↓Pz.wAsg_ap, ↓Pz.wItE_ap, ↓Pz.wRng1_ap, ↓Pz.wRng2_ap, ↓Pz.wYes_ap, ↓Pz.wLc_ap, ↓Pz.wLcO_ap, ↓Pz.wBM_ap, ↓Pz.wSetIx_ap, ↓Pz.wFrz_ap, ↓Pz.wCallF_ap, ↓Pz.wCallQ_ap, ↓Pz.wCallWF_ap, ↓Pz.wRev_ap, ↓Pz.wRg1_ap, ↓Pz.wRg2_ap, ↓Pz.wListRg_ap, ↓Pz.wRng3_ap, ↓Pz.wEnum_ap, ↓Pz.wZip_ap, ↓Pz.wCallQO_ap, ↓Pz.wDPut_ap, ↓Pz.wPNil_ap, ↓Pz.wPCons_ap, ↓Pz.wDisp_ap, ↓Pz.wDNew_ap, ↓Pz.wDNil_ap, ↓Pz.wEnumX_ap, ↓Pz.wCallE_ap, ↓Pz.wSlO_ap, ↓Pz.wEnumY_ap, ↓Pz.wDGet2_ap, ↓Pz.wMaxDf_ap, ↓Pz.wCallFO_ap, ↓Pz.wRevY_ap, ↓Pz.wFrzX_ap, ↓Pz.wSwp_ap, ↓Pz.wCallX_ap, ↓Pz.wCallXO_ap, ↓Pz.wCallWX_ap, ↓Pz.wRaise1_ap, ↓Pz.wRaise0_ap, ↓Pz.wTry_ap, ↓Pz.wIsE_ap, ↓Pz.wXf_ap, ↓Pz.wDispD_ap, ↓Pz.wSortLen_ap, ↓Pz.wGGet_ap, ↓Pz.wMinDf_ap, ↓Pz.wPar_ap, ↓Pz.wLam_ap, ↓Pz.wAct_ap, ↓Pz.wRep_ap, ↓Pz.wZipM_ap, ↓Pz.wZipN_ap, ↓Pz.wLenSet_ap, ↓Pz.wBor_ap, ↓Pz.gTpL_ap, ↓Pz.wTupRg_ap, ↓Pz.wRevS_ap, ↓Pz.wFmt_ap, ↓Pz.wJoined_ap, ↓Pz.wAsgS_ap, ↓Pz.wPar3_ap, ↓Pz.wDc_ap, ↓Pz.wDcT_ap, ↓Pz.wDGet3_ap, ↓Pz.wListV_ap, ↓Pz.wSumV_ap, ↓Pz.wDIn_ap, ↓Pz.wTGet2_ap, ↓Pz.wTPut_ap, ↓Pz.wDAug_ap, ↓Pz.wFrzL_ap, ↓Pz.wItV_ap, ↓Pz.wItI_ap, ↓Pz.wItK_ap, ↓Pz.wDisp1_ap, ↓Pz.wBorD_ap, ↓Pz.wDNewT_ap, ↓Pz.wCallFD_ap, ↓Pz.wDNew_ap, ↓Pz.wItC_ap, ↓Pz.wCallXE_ap, ↓Pz.wTSetd_ap, ↓Pz.wListRgO_ap, ↓Pz.wTryC_ap, ↓Pz.wTry2_ap, ↓Pz.wRepl_ap, ↓Pz.wMinLen_ap, ↓Pz.wDNewN_ap, ↓Pz.wNSetd_ap, ↓Pz.wFrzN_ap, Pz.setAll, ↓Pz.wClose_ap, ↓Pz.wSetIxO_ap, ↓Pz.oIxS_ap, ↓Pz.wRaise3_ap, ↓Pz.oMulT_ap, Pz.dkX, Pz.unKD_kdD, Option.isSome_some, ↓Pz.wOrX_apS, ↓Pz.wAndX_apS, ↓Pz.orP_str, Pz.orP_some, Pz.orP_none, ↓oTGet, ↓oLtS, ↓oLtT, ↓fListKy, ↓fSortKy, ↓fLenD_o, ↓Pz.aFD, Pz.unD_K, Pz.unD_T, Pz.kyS_t, Pz.keysL_nil, Pz.keysL_ci, Pz.keysL_cs, ↓Pz.dtAt_o, Pz.dtAt_L, ↓Pz.dkAny_o, Pz.dkAny_D, Pz.dkAny_L, ↓Pz.dvAt_o, Pz.dvAt_D, Pz.dvAt_L, Pz.dvAt_T, ↓Pz.dkyS_o, Pz.dkyS_D, Pz.dkyS_L, Pz.dkyS_T, ↓Pz.dinS_o, Pz.dinS_D, Pz.dinS_L, Pz.dinS_T, Pz.lkP_K, Pz.lkP_T, Pz.lkV_K, Pz.lkV_T, Pz.lkV_N, ↓Pz.dnAt_o, Pz.oK_n, Pz.oK_i, ↓ret1_dT, cl_dt, Pz.lkOf_K, Pz.lkOf_T, Pz.xor_f, Pz.xor_t, Pz.hasD_int, Option.bind, Option.bind_some, List.set, ↓seq_mk, ↓wTrim_mk, trimS, List.take_succ_cons, List.take_zero, Nat.reduceLT, ↓nx_mk, ↓set_mk, ↓if_mk, nthS, ↓oEq, ↓oNe, vw, ↓oAdd, ↓oSub, ↓oIadd, ↓oDGet, keyOf_str, keyOf_int, keyS_str, keyS_int, ↓dkAt_o, valE_cells, valE_at, valE_left, putE_at, putE_left, mergeE, mergeD1, kvD1, keyD_s, keyD_i, ret1_dE, cl_dk, ↓fIsi, ↓fDivmod, ↓fStr, Pz.okT_int, Pz.is_int_none, Pz.is_int_bool, Pz.is_int_int, Pz.is_int_str, Pz.is_int_list, Pz.is_int_tuple, Pz.is_int_dict, Pz.okT_bool, Pz.is_bool_none, Pz.is_bool_bool, Pz.is_bool_int, Pz.is_bool_str, Pz.is_bool_list, Pz.is_bool_tuple, Pz.is_bool_dict, Pz.okT_str, Pz.is_str_none, Pz.is_str_bool, Pz.is_str_int, Pz.is_str_str, Pz.is_str_list, Pz.is_str_tuple, Pz.is_str_dict, Pz.okT_tuple, Pz.is_tuple_none, Pz.is_tuple_bool, Pz.is_tuple_int, Pz.is_tuple_str, Pz.is_tuple_list, Pz.is_tuple_tuple, Pz.is_tuple_dict, Pz.okT_list, Pz.is_list_none, Pz.is_list_bool, Pz.is_list_int, Pz.is_list_str, Pz.is_list_list, Pz.is_list_tuple, Pz.is_list_dict, Pz.is_dict_none, Pz.is_dict_bool, Pz.is_dict_int, Pz.is_dict_str, Pz.is_dict_list, Pz.is_dict_tuple, Pz.is_dict_dict, ↓oFdiv, ↓oMod, ↓oMul, ↓oPow, ↓oBool, ↓oII, ↓oIsN, ↓oNotN, ↓oIn, ↓oInX, ↓oInQ, ↓oInT, ↓oIsB, ↓oIsBN, ↓oNotB, noneS, ↓ret_mk, ↓retN_mk, ↓bk_mk, ↓ct_mk, ↓expr_mk, ↓for_mk, truD, ↓oIxE, ↓mPopAt, ↓mIndex, ↓mInsert, ↓fIntS, ↓fStrN, ↓Pz.wJs_cons, ↓Pz.wJs_nil, at0, at1, at2, at3, ix10, ix20, ix21, ix30, ix31, ix32, Pz.len1, Pz.len2, Pz.len3, List.length_nil, List.length_cons, sh_int, sh_bl, sh_non, Int.reduceEq, reduceCtorEq, decide_true, decide_false, sh_nil, eqv_nn, eqv_nilL, List.isEmpty_map, sh_lit, List.flatten_replicate_singleton, List.length_replicate, eqv_int, Nat.zero_le, szL, Nat.reduceLeDiff, Nat.reduceAdd, ↓ret1_d, ↓ret1_o0, ↓ret1_o1, ↓ret1_o2, ↓ret0_o0, ↓ret_d, cl_lst, true_and, and_true, decide_eq_true_eq, ↓oSl, ↓oSlO, ↓fLen, ↓fAbs, ↓fInt, ↓fMaxE, ↓fMinE, ↓fSumE, ↓Pz.fSumL, ↓fAll, ↓fAny, ↓fList, ↓fListO, ↓fListE, ↓fListEO, ↓fTuple, ↓fSortedE, ↓fSortedS, ↓fSortedG, ↓Pz.fSortedGO, ↓fRep, ↓fRepX, ↓fRepZ, ↓fRepW, ↓fBool, vwJ_l, vwJ_t, vwS_l, vwS_t, vwB, dsOf, tyD, ↓mAppend, ↓mExtend, ↓mPop, ↓mReverse, ↓mSplit, ↓mSplitO, ↓mStrip, ↓mLstrip, ↓mRstrip, ↓mStr2, ↓mPart, ↓mJoinE, frzS, frzX, ↓excOf_o, Pz.excOf_d, ↓oDGetX, List.map_cons, List.map_nil, List.getElem?_cons_zero, List.getElem?_cons_succ, List.cons_append, List.nil_append, Bool.false_eq_true, Bool.true_eq_false, ↓reduceIte, p10_3, p10_6, p10_7, p10_9, p10_12, Option.map, ↓aQ, ↓aQO, ↓aFO, borS, atomD, ↓aXO, ↓oAddO, ↓oMulO, Option.some.injEq, exists_eq_left', exists_and_left, datO, datQ_d, ↓mCount, ↓mCountS, Bool.not_true, Bool.not_false, ↓F_need_characters, ↓F_indent_of, ↓F_number_state, ↓F_next_state, ↓F_first_fault, ↓F_parse_indent, ↓F__law_draw, ↓F__law_is_number, ↓F__law_is_begun, ↓F__law_due, ↓F__law_word, ↓F__law_text, ↓F__law_bent, ↓F__law_heard, sh_ints, eqv_nil]
  split
  · exact ⟨h6, cdwB h6 h7, q' _ _ (Int.ediv_nonneg h4 (by omega)) (.inl rfl) _⟩
  · refine ⟨.inl (small (by omega) (by omega)), ?_⟩
    by_cases hd : ds = []
    · subst hd
      simp only [List.isEmpty_nil, ↓Pz.wC_ap, ↓Pz.wVar_ap, ↓Pz.wOp_ap, ↓Pz.wTest_ap, ↓Pz.wNil_ap, ↓Pz.wCons_ap, ↓Pz.wCall_ap, ↓Pz.wCallW_ap, ↓Pz.wApp_ap, ↓Pz.wLst_ap, ↓Pz.wTup_ap, ↓Pz.wLstO_ap, ↓Pz.wNoPart_ap, ↓Pz.wPart_ap, ↓Pz.wSl_ap, ↓Pz.wAnd_ap, ↓Pz.wOr_ap, ↓Pz.wNot_ap, ↓Pz.wAndV_ap, ↓Pz.wOrV_ap, ↓Pz.wNotV_ap, ↓Pz.wIfE_ap, ↓Pz.wTru_ap, ↓Pz.wChain_ap, ↓Pz.wNeg_ap, ↓Pz.wAug_ap, ↓Pz.gNm_ap, ↓Pz.gNl_ap, ↓Pz.gCn_ap, ↓Pz.gTp_ap, ↓Pz.wAsg_ap, ↓Pz.wItE_ap, ↓Pz.wRng1_ap, ↓Pz.wRng2_ap, ↓Pz.wYes_ap, ↓Pz.wLc_ap, ↓Pz.wLcO_ap, ↓Pz.wBM_ap, ↓Pz.wSetIx_ap, ↓Pz.wFrz_ap, ↓Pz.wCallF_ap, ↓Pz.wCallQ_ap, ↓Pz.wCallWF_ap, ↓Pz.wRev_ap, ↓Pz.wRg1_ap, ↓Pz.wRg2_ap, ↓Pz.wListRg_ap, ↓Pz.wRng3_ap, ↓Pz.wEnum_ap, ↓Pz.wZip_ap, ↓Pz.wCallQO_ap, ↓Pz.wDPut_ap, ↓Pz.wPNil_ap, ↓Pz.wPCons_ap, ↓Pz.wDisp_ap, ↓Pz.wDNew_ap, ↓Pz.wDNil_ap, ↓Pz.wEnumX_ap, ↓Pz.wCallE_ap, ↓Pz.wSlO_ap, ↓Pz.wEnumY_ap, ↓Pz.wDGet2_ap, ↓Pz.wMaxDf_ap, ↓Pz.wCallFO_ap, ↓Pz.wRevY_ap, ↓Pz.wFrzX_ap, ↓Pz.wSwp_ap, ↓Pz.wCallX_ap, ↓Pz.wCallXO_ap, ↓Pz.wCallWX_ap, ↓Pz.wRaise1_ap, ↓Pz.wRaise0_ap, ↓Pz.wTry_ap, ↓Pz.wIsE_ap, ↓Pz.wXf_ap, ↓Pz.wDispD_ap, ↓Pz.wSortLen_ap, ↓Pz.wGGet_ap, ↓Pz.wMinDf_ap, ↓Pz.wPar_ap, ↓Pz.wLam_ap, ↓Pz.wAct_ap, ↓Pz.wRep_ap, ↓Pz.wZipM_ap, ↓Pz.wZipN_ap, ↓Pz.wLenSet_ap, ↓Pz.wBor_ap, ↓Pz.gTpL_ap, ↓Pz.wTupRg_ap, ↓Pz.wRevS_ap, ↓Pz.wFmt_ap, ↓Pz.wJoined_ap, ↓Pz.wAsgS_ap, ↓Pz.wPar3_ap, ↓Pz.wDc_ap, ↓Pz.wDcT_ap, ↓Pz.wDGet3_ap, ↓Pz.wListV_ap, ↓Pz.wSumV_ap, ↓Pz.wDIn_ap, ↓Pz.wTGet2_ap, ↓Pz.wTPut_ap, ↓Pz.wDAug_ap, ↓Pz.wFrzL_ap, ↓Pz.wItV_ap, ↓Pz.wItI_ap, ↓Pz.wItK_ap, ↓Pz.wDisp1_ap, ↓Pz.wBorD_ap, ↓Pz.wDNewT_ap, ↓Pz.wCallFD_ap, ↓Pz.wDNew_ap, ↓Pz.wItC_ap, ↓Pz.wCallXE_ap, ↓Pz.wTSetd_ap, ↓Pz.wListRgO_ap, ↓Pz.wTryC_ap, ↓Pz.wTry2_ap, ↓Pz.wRepl_ap, ↓Pz.wMinLen_ap, ↓Pz.wDNewN_ap, ↓Pz.wNSetd_ap, ↓Pz.wFrzN_ap, Pz.setAll, ↓Pz.wClose_ap, ↓Pz.wSetIxO_ap, ↓Pz.oIxS_ap, ↓Pz.wRaise3_ap, ↓Pz.oMulT_ap, Pz.dkX, Pz.unKD_kdD, Option.isSome_some, ↓Pz.wOrX_apS, ↓Pz.wAndX_apS, ↓Pz.orP_str, Pz.orP_some, Pz.orP_none, ↓oTGet, ↓oLtS, ↓oLtT, ↓fListKy, ↓fSortKy, ↓fLenD_o, ↓Pz.aFD, Pz.unD_K, Pz.unD_T, Pz.kyS_t, Pz.keysL_nil, Pz.keysL_ci, Pz.keysL_cs, ↓Pz.dtAt_o, Pz.dtAt_L, ↓Pz.dkAny_o, Pz.dkAny_D, Pz.dkAny_L, ↓Pz.dvAt_o, Pz.dvAt_D, Pz.dvAt_L, Pz.dvAt_T, ↓Pz.dkyS_o, Pz.dkyS_D, Pz.dkyS_L, Pz.dkyS_T, ↓Pz.dinS_o, Pz.dinS_D, Pz.dinS_L, Pz.dinS_T, Pz.lkP_K, Pz.lkP_T, Pz.lkV_K, Pz.lkV_T, Pz.lkV_N, ↓Pz.dnAt_o, Pz.oK_n, Pz.oK_i, ↓ret1_dT, cl_dt, Pz.lkOf_K, Pz.lkOf_T, Pz.xor_f, Pz.xor_t, Pz.hasD_int, Option.bind, Option.bind_some, List.set, ↓seq_mk, ↓wTrim_mk, trimS, List.take_succ_cons, List.take_zero, Nat.reduceLT, ↓nx_mk, ↓set_mk, ↓if_mk, nthS, ↓oEq, ↓oNe, vw, ↓oAdd, ↓oSub, ↓oIadd, ↓oDGet, keyOf_str, keyOf_int, keyS_str, keyS_int, ↓dkAt_o, valE_cells, valE_at, valE_left, putE_at, putE_left, mergeE, mergeD1, kvD1, keyD_s, keyD_i, ret1_dE, cl_dk, ↓fIsi, ↓fDivmod, ↓fStr, Pz.okT_int, Pz.is_int_none, Pz.is_int_bool, Pz.is_int_int, Pz.is_int_str, Pz.is_int_list, Pz.is_int_tuple, Pz.is_int_dict, Pz.okT_bool, Pz.is_bool_none, Pz.is_bool_bool, Pz.is_bool_int, Pz.is_bool_str, Pz.is_bool_list, Pz.is_bool_tuple, Pz.is_bool_dict, Pz.okT_str, Pz.is_str_none, Pz.is_str_bool, Pz.is_str_int, Pz.is_str_str, Pz.is_str_list, Pz.is_str_tuple, Pz.is_str_dict, Pz.okT_tuple, Pz.is_tuple_none, Pz.is_tuple_bool, Pz.is_tuple_int, Pz.is_tuple_str, Pz.is_tuple_list, Pz.is_tuple_tuple, Pz.is_tuple_dict, Pz.okT_list, Pz.is_list_none, Pz.is_list_bool, Pz.is_list_int, Pz.is_list_str, Pz.is_list_list, Pz.is_list_tuple, Pz.is_list_dict, Pz.is_dict_none, Pz.is_dict_bool, Pz.is_dict_int, Pz.is_dict_str, Pz.is_dict_list, Pz.is_dict_tuple, Pz.is_dict_dict, ↓oFdiv, ↓oMod, ↓oMul, ↓oPow, ↓oBool, ↓oII, ↓oIsN, ↓oNotN, ↓oIn, ↓oInX, ↓oInQ, ↓oInT, ↓oIsB, ↓oIsBN, ↓oNotB, noneS, ↓ret_mk, ↓retN_mk, ↓bk_mk, ↓ct_mk, ↓expr_mk, ↓for_mk, truD, ↓oIxE, ↓mPopAt, ↓mIndex, ↓mInsert, ↓fIntS, ↓fStrN, ↓Pz.wJs_cons, ↓Pz.wJs_nil, at0, at1, at2, at3, ix10, ix20, ix21, ix30, ix31, ix32, Pz.len1, Pz.len2, Pz.len3, List.length_nil, List.length_cons, sh_int, sh_bl, sh_non, Int.reduceEq, reduceCtorEq, decide_true, decide_false, sh_nil, eqv_nn, eqv_nilL, List.isEmpty_map, sh_lit, List.flatten_replicate_singleton, List.length_replicate, eqv_int, Nat.zero_le, szL, Nat.reduceLeDiff, Nat.reduceAdd, ↓ret1_d, ↓ret1_o0, ↓ret1_o1, ↓ret1_o2, ↓ret0_o0, ↓ret_d, cl_lst, true_and, and_true, decide_eq_true_eq, ↓oSl, ↓oSlO, ↓fLen, ↓fAbs, ↓fInt, ↓fMaxE, ↓fMinE, ↓fSumE, ↓Pz.fSumL, ↓fAll, ↓fAny, ↓fList, ↓fListO, ↓fListE, ↓fListEO, ↓fTuple, ↓fSortedE, ↓fSortedS, ↓fSortedG, ↓Pz.fSortedGO, ↓fRep, ↓fRepX, ↓fRepZ, ↓fRepW, ↓fBool, vwJ_l, vwJ_t, vwS_l, vwS_t, vwB, dsOf, tyD, ↓mAppend, ↓mExtend, ↓mPop, ↓mReverse, ↓mSplit, ↓mSplitO, ↓mStrip, ↓mLstrip, ↓mRstrip, ↓mStr2, ↓mPart, ↓mJoinE, frzS, frzX, ↓excOf_o, Pz.excOf_d, ↓oDGetX, List.map_cons, List.map_nil, List.getElem?_cons_zero, List.getElem?_cons_succ, List.cons_append, List.nil_append, Bool.false_eq_true, Bool.true_eq_false, ↓reduceIte, p10_3, p10_6, p10_7, p10_9, p10_12, Option.map, ↓aQ, ↓aQO, ↓aFO, borS, atomD, ↓aXO, ↓oAddO, ↓oMulO, Option.some.injEq, exists_eq_left', exists_and_left, datO, datQ_d, ↓mCount, ↓mCountS, Bool.not_true, Bool.not_false, ↓F_need_characters, ↓F_indent_of, ↓F_number_state, ↓F_next_state, ↓F_first_fault, ↓F_parse_indent, ↓F__law_draw, ↓F__law_is_number, ↓F__law_is_begun, ↓F__law_due, ↓F__law_word, ↓F__law_text, ↓F__law_bent, ↓F__law_heard, List.length_map]
      rw [if_neg (by simpa using h2)]
      have f1 := Int.emod_nonneg (4099 * i + 271) (by omega : (2147483543 : Int) ≠ 0)
      have f2 := Int.emod_lt_of_pos (4099 * i + 271) (by omega : (0 : Int) < 2147483543)
      generalize (4099 * i + 271) % 2147483543 = C at *
      repeat (first | refine And.intro (by omega) ?_ | refine And.intro (.inl (small (by omega) (by omega))) ?_ | refine And.intro (.inr (small (by omega) (by omega))) ?_ | refine And.intro (cpow (by omega) (by omega) (by omega) (by omega)) ?_ | refine And.intro (cdw (by omega) (by omega)) ?_)
      generalize hM : (C + 52501 * i + 97) ^ Int.toNat 5 % 2147483647 = M
      have g1 : 0 ≤ M := by rw [← hM]; exact Int.emod_nonneg _ (by omega)
      have g2 : M < 2147483647 := by rw [← hM]; exact Int.emod_lt_of_pos _ (by omega)
      have g3 : 0 ≤ M * (i + 30011) := Int.mul_nonneg g1 (by omega)
      have g4 : M * (i + 30011) ≤ 2147483647 * 1030011 := Int.mul_le_mul (by omega) (by omega) (by omega) (by omega)
      repeat (first | refine And.intro (by omega) ?_ | refine And.intro (.inl (small (by omega) (by omega))) ?_ | refine And.intro (.inr (small (by omega) (by omega))) ?_ | refine And.intro (cpow (by omega) (by omega) (by omega) (by omega)) ?_ | refine And.intro (cdw (by omega) (by omega)) ?_)
      exact q' _ _ h4 (.inr rfl) _
    · have he : ds.isEmpty = false := by cases ds with | nil => exact absurd rfl hd | cons _ _ => rfl
      have hp : 0 < ((ds.map PyData.int).length : Int) := by cases ds with | nil => exact absurd rfl hd | cons _ _ => simp only [List.map_cons, List.length_cons]; omega
      obtain ⟨y, e, my⟩ := atI_lt (xs := ds.map PyData.int) (i := i % (ds.map PyData.int).length) (Int.emod_nonneg _ (by omega)) (Int.emod_lt_of_pos _ hp)
      obtain ⟨v, _, rfl⟩ := List.mem_map.mp my
      simp only [he, e, ↓Pz.wC_ap, ↓Pz.wVar_ap, ↓Pz.wOp_ap, ↓Pz.wTest_ap, ↓Pz.wNil_ap, ↓Pz.wCons_ap, ↓Pz.wCall_ap, ↓Pz.wCallW_ap, ↓Pz.wApp_ap, ↓Pz.wLst_ap, ↓Pz.wTup_ap, ↓Pz.wLstO_ap, ↓Pz.wNoPart_ap, ↓Pz.wPart_ap, ↓Pz.wSl_ap, ↓Pz.wAnd_ap, ↓Pz.wOr_ap, ↓Pz.wNot_ap, ↓Pz.wAndV_ap, ↓Pz.wOrV_ap, ↓Pz.wNotV_ap, ↓Pz.wIfE_ap, ↓Pz.wTru_ap, ↓Pz.wChain_ap, ↓Pz.wNeg_ap, ↓Pz.wAug_ap, ↓Pz.gNm_ap, ↓Pz.gNl_ap, ↓Pz.gCn_ap, ↓Pz.gTp_ap, ↓Pz.wAsg_ap, ↓Pz.wItE_ap, ↓Pz.wRng1_ap, ↓Pz.wRng2_ap, ↓Pz.wYes_ap, ↓Pz.wLc_ap, ↓Pz.wLcO_ap, ↓Pz.wBM_ap, ↓Pz.wSetIx_ap, ↓Pz.wFrz_ap, ↓Pz.wCallF_ap, ↓Pz.wCallQ_ap, ↓Pz.wCallWF_ap, ↓Pz.wRev_ap, ↓Pz.wRg1_ap, ↓Pz.wRg2_ap, ↓Pz.wListRg_ap, ↓Pz.wRng3_ap, ↓Pz.wEnum_ap, ↓Pz.wZip_ap, ↓Pz.wCallQO_ap, ↓Pz.wDPut_ap, ↓Pz.wPNil_ap, ↓Pz.wPCons_ap, ↓Pz.wDisp_ap, ↓Pz.wDNew_ap, ↓Pz.wDNil_ap, ↓Pz.wEnumX_ap, ↓Pz.wCallE_ap, ↓Pz.wSlO_ap, ↓Pz.wEnumY_ap, ↓Pz.wDGet2_ap, ↓Pz.wMaxDf_ap, ↓Pz.wCallFO_ap, ↓Pz.wRevY_ap, ↓Pz.wFrzX_ap, ↓Pz.wSwp_ap, ↓Pz.wCallX_ap, ↓Pz.wCallXO_ap, ↓Pz.wCallWX_ap, ↓Pz.wRaise1_ap, ↓Pz.wRaise0_ap, ↓Pz.wTry_ap, ↓Pz.wIsE_ap, ↓Pz.wXf_ap, ↓Pz.wDispD_ap, ↓Pz.wSortLen_ap, ↓Pz.wGGet_ap, ↓Pz.wMinDf_ap, ↓Pz.wPar_ap, ↓Pz.wLam_ap, ↓Pz.wAct_ap, ↓Pz.wRep_ap, ↓Pz.wZipM_ap, ↓Pz.wZipN_ap, ↓Pz.wLenSet_ap, ↓Pz.wBor_ap, ↓Pz.gTpL_ap, ↓Pz.wTupRg_ap, ↓Pz.wRevS_ap, ↓Pz.wFmt_ap, ↓Pz.wJoined_ap, ↓Pz.wAsgS_ap, ↓Pz.wPar3_ap, ↓Pz.wDc_ap, ↓Pz.wDcT_ap, ↓Pz.wDGet3_ap, ↓Pz.wListV_ap, ↓Pz.wSumV_ap, ↓Pz.wDIn_ap, ↓Pz.wTGet2_ap, ↓Pz.wTPut_ap, ↓Pz.wDAug_ap, ↓Pz.wFrzL_ap, ↓Pz.wItV_ap, ↓Pz.wItI_ap, ↓Pz.wItK_ap, ↓Pz.wDisp1_ap, ↓Pz.wBorD_ap, ↓Pz.wDNewT_ap, ↓Pz.wCallFD_ap, ↓Pz.wDNew_ap, ↓Pz.wItC_ap, ↓Pz.wCallXE_ap, ↓Pz.wTSetd_ap, ↓Pz.wListRgO_ap, ↓Pz.wTryC_ap, ↓Pz.wTry2_ap, ↓Pz.wRepl_ap, ↓Pz.wMinLen_ap, ↓Pz.wDNewN_ap, ↓Pz.wNSetd_ap, ↓Pz.wFrzN_ap, Pz.setAll, ↓Pz.wClose_ap, ↓Pz.wSetIxO_ap, ↓Pz.oIxS_ap, ↓Pz.wRaise3_ap, ↓Pz.oMulT_ap, Pz.dkX, Pz.unKD_kdD, Option.isSome_some, ↓Pz.wOrX_apS, ↓Pz.wAndX_apS, ↓Pz.orP_str, Pz.orP_some, Pz.orP_none, ↓oTGet, ↓oLtS, ↓oLtT, ↓fListKy, ↓fSortKy, ↓fLenD_o, ↓Pz.aFD, Pz.unD_K, Pz.unD_T, Pz.kyS_t, Pz.keysL_nil, Pz.keysL_ci, Pz.keysL_cs, ↓Pz.dtAt_o, Pz.dtAt_L, ↓Pz.dkAny_o, Pz.dkAny_D, Pz.dkAny_L, ↓Pz.dvAt_o, Pz.dvAt_D, Pz.dvAt_L, Pz.dvAt_T, ↓Pz.dkyS_o, Pz.dkyS_D, Pz.dkyS_L, Pz.dkyS_T, ↓Pz.dinS_o, Pz.dinS_D, Pz.dinS_L, Pz.dinS_T, Pz.lkP_K, Pz.lkP_T, Pz.lkV_K, Pz.lkV_T, Pz.lkV_N, ↓Pz.dnAt_o, Pz.oK_n, Pz.oK_i, ↓ret1_dT, cl_dt, Pz.lkOf_K, Pz.lkOf_T, Pz.xor_f, Pz.xor_t, Pz.hasD_int, Option.bind, Option.bind_some, List.set, ↓seq_mk, ↓wTrim_mk, trimS, List.take_succ_cons, List.take_zero, Nat.reduceLT, ↓nx_mk, ↓set_mk, ↓if_mk, nthS, ↓oEq, ↓oNe, vw, ↓oAdd, ↓oSub, ↓oIadd, ↓oDGet, keyOf_str, keyOf_int, keyS_str, keyS_int, ↓dkAt_o, valE_cells, valE_at, valE_left, putE_at, putE_left, mergeE, mergeD1, kvD1, keyD_s, keyD_i, ret1_dE, cl_dk, ↓fIsi, ↓fDivmod, ↓fStr, Pz.okT_int, Pz.is_int_none, Pz.is_int_bool, Pz.is_int_int, Pz.is_int_str, Pz.is_int_list, Pz.is_int_tuple, Pz.is_int_dict, Pz.okT_bool, Pz.is_bool_none, Pz.is_bool_bool, Pz.is_bool_int, Pz.is_bool_str, Pz.is_bool_list, Pz.is_bool_tuple, Pz.is_bool_dict, Pz.okT_str, Pz.is_str_none, Pz.is_str_bool, Pz.is_str_int, Pz.is_str_str, Pz.is_str_list, Pz.is_str_tuple, Pz.is_str_dict, Pz.okT_tuple, Pz.is_tuple_none, Pz.is_tuple_bool, Pz.is_tuple_int, Pz.is_tuple_str, Pz.is_tuple_list, Pz.is_tuple_tuple, Pz.is_tuple_dict, Pz.okT_list, Pz.is_list_none, Pz.is_list_bool, Pz.is_list_int, Pz.is_list_str, Pz.is_list_list, Pz.is_list_tuple, Pz.is_list_dict, Pz.is_dict_none, Pz.is_dict_bool, Pz.is_dict_int, Pz.is_dict_str, Pz.is_dict_list, Pz.is_dict_tuple, Pz.is_dict_dict, ↓oFdiv, ↓oMod, ↓oMul, ↓oPow, ↓oBool, ↓oII, ↓oIsN, ↓oNotN, ↓oIn, ↓oInX, ↓oInQ, ↓oInT, ↓oIsB, ↓oIsBN, ↓oNotB, noneS, ↓ret_mk, ↓retN_mk, ↓bk_mk, ↓ct_mk, ↓expr_mk, ↓for_mk, truD, ↓oIxE, ↓mPopAt, ↓mIndex, ↓mInsert, ↓fIntS, ↓fStrN, ↓Pz.wJs_cons, ↓Pz.wJs_nil, at0, at1, at2, at3, ix10, ix20, ix21, ix30, ix31, ix32, Pz.len1, Pz.len2, Pz.len3, List.length_nil, List.length_cons, sh_int, sh_bl, sh_non, Int.reduceEq, reduceCtorEq, decide_true, decide_false, sh_nil, eqv_nn, eqv_nilL, List.isEmpty_map, sh_lit, List.flatten_replicate_singleton, List.length_replicate, eqv_int, Nat.zero_le, szL, Nat.reduceLeDiff, Nat.reduceAdd, ↓ret1_d, ↓ret1_o0, ↓ret1_o1, ↓ret1_o2, ↓ret0_o0, ↓ret_d, cl_lst, true_and, and_true, decide_eq_true_eq, ↓oSl, ↓oSlO, ↓fLen, ↓fAbs, ↓fInt, ↓fMaxE, ↓fMinE, ↓fSumE, ↓Pz.fSumL, ↓fAll, ↓fAny, ↓fList, ↓fListO, ↓fListE, ↓fListEO, ↓fTuple, ↓fSortedE, ↓fSortedS, ↓fSortedG, ↓Pz.fSortedGO, ↓fRep, ↓fRepX, ↓fRepZ, ↓fRepW, ↓fBool, vwJ_l, vwJ_t, vwS_l, vwS_t, vwB, dsOf, tyD, ↓mAppend, ↓mExtend, ↓mPop, ↓mReverse, ↓mSplit, ↓mSplitO, ↓mStrip, ↓mLstrip, ↓mRstrip, ↓mStr2, ↓mPart, ↓mJoinE, frzS, frzX, ↓excOf_o, Pz.excOf_d, ↓oDGetX, List.map_cons, List.map_nil, List.getElem?_cons_zero, List.getElem?_cons_succ, List.cons_append, List.nil_append, Bool.false_eq_true, Bool.true_eq_false, ↓reduceIte, p10_3, p10_6, p10_7, p10_9, p10_12, Option.map, ↓aQ, ↓aQO, ↓aFO, borS, atomD, ↓aXO, ↓oAddO, ↓oMulO, Option.some.injEq, exists_eq_left', exists_and_left, datO, datQ_d, ↓mCount, ↓mCountS, Bool.not_true, Bool.not_false, ↓F_need_characters, ↓F_indent_of, ↓F_number_state, ↓F_next_state, ↓F_first_fault, ↓F_parse_indent, ↓F__law_draw, ↓F__law_is_number, ↓F__law_is_begun, ↓F__law_due, ↓F__law_word, ↓F__law_text, ↓F__law_bent, ↓F__law_heard]
      refine ⟨hp, ?_⟩
      refine ite_all ⟨cpow (by omega) (by omega) (by omega) (by omega), ite_all ?_ ?_⟩ ?_
      · refine ⟨.inl (small (by omega) (by omega)), cdwB h6 h7, h6, q' _ _ (Int.ediv_nonneg ?_ (by omega)) (.inr rfl) _⟩
        by_cases hv : v < 0
        · rw [if_pos hv, if_pos hv]; omega
        · rw [if_neg hv, if_neg hv]; omega
      · clear e hp
        have f1 := Int.emod_nonneg (v) (by omega : (2147483543 : Int) ≠ 0)
        have f2 := Int.emod_lt_of_pos (v) (by omega : (0 : Int) < 2147483543)
        generalize (v) % 2147483543 = C at *
        repeat (first | refine And.intro (by omega) ?_ | refine And.intro (.inl (small (by omega) (by omega))) ?_ | refine And.intro (.inr (small (by omega) (by omega))) ?_ | refine And.intro (cpow (by omega) (by omega) (by omega) (by omega)) ?_ | refine And.intro (cdw (by omega) (by omega)) ?_)
        generalize hM : (C + 52501 * i + 97) ^ Int.toNat 5 % 2147483647 = M
        have g1 : 0 ≤ M := by rw [← hM]; exact Int.emod_nonneg _ (by omega)
        have g2 : M < 2147483647 := by rw [← hM]; exact Int.emod_lt_of_pos _ (by omega)
        have g3 : 0 ≤ M * (i + 30011) := Int.mul_nonneg g1 (by omega)
        have g4 : M * (i + 30011) ≤ 2147483647 * 1030011 := Int.mul_le_mul (by omega) (by omega) (by omega) (by omega)
        repeat (first | refine And.intro (by omega) ?_ | refine And.intro (.inl (small (by omega) (by omega))) ?_ | refine And.intro (.inr (small (by omega) (by omega))) ?_ | refine And.intro (cpow (by omega) (by omega) (by omega) (by omega)) ?_ | refine And.intro (cdw (by omega) (by omega)) ?_)
        exact q' _ _ h4 (.inr rfl) _
      · clear e hp
        have f1 := Int.emod_nonneg (v) (by omega : (2147483543 : Int) ≠ 0)
        have f2 := Int.emod_lt_of_pos (v) (by omega : (0 : Int) < 2147483543)
        generalize (v) % 2147483543 = C at *
        repeat (first | refine And.intro (by omega) ?_ | refine And.intro (.inl (small (by omega) (by omega))) ?_ | refine And.intro (.inr (small (by omega) (by omega))) ?_ | refine And.intro (cpow (by omega) (by omega) (by omega) (by omega)) ?_ | refine And.intro (cdw (by omega) (by omega)) ?_)
        generalize hM : (C + 52501 * i + 97) ^ Int.toNat 5 % 2147483647 = M
        have g1 : 0 ≤ M := by rw [← hM]; exact Int.emod_nonneg _ (by omega)
        have g2 : M < 2147483647 := by rw [← hM]; exact Int.emod_lt_of_pos _ (by omega)
        have g3 : 0 ≤ M * (i + 30011) := Int.mul_nonneg g1 (by omega)
        have g4 : M * (i + 30011) ≤ 2147483647 * 1030011 := Int.mul_le_mul (by omega) (by omega) (by omega) (by omega)
        repeat (first | refine And.intro (by omega) ?_ | refine And.intro (.inl (small (by omega) (by omega))) ?_ | refine And.intro (.inr (small (by omega) (by omega))) ?_ | refine And.intro (cpow (by omega) (by omega) (by omega) (by omega)) ?_ | refine And.intro (cdw (by omega) (by omega)) ?_)
        exact q' _ _ h4 (.inr rfl) _
theorem ok__law_is_number (T : Tx K mg f_need_characters f_number_state f__law_pen f__law_draw f__law_is_number f_indent_of f_next_state f__law_is_begun f__law_word f__law_bent f_first_fault f__law_due f__law_text f_parse_indent f__law_heard f_law fd_need_characters fd_number_state fd__law_pen fd__law_draw fd__law_is_number fd_indent_of fd_next_state fd__law_is_begun fd__law_word fd__law_bent fd_first_fault fd__law_due fd__law_text fd_parse_indent fd__law_heard fd_law) : FnD P w K mg base CX0 1 f__law_is_number fd__law_is_number ["_law_word_here"] sp__law_is_number := by
  refine FnD.of0 T.d__law_is_number.F sc__law_is_number 0 _ (fun cdv A outer s H E Z0 hA hr hz => (dss_cons (ds_if (DWs.dt (dw_or (dt_cmp d2_eq (op_eqD hr.units) (de_v 0 (pv 0)) de_str (nomark _)) (dw_or1 (dt_cmp d2_ne (op_neD hr.units) (de_lc rfl sc__law_is_number.nd (di_e (de_v 0 (pv 0))) (blkOk_by (own := [("_law_char", 1)]) (N := N__law_is_number) (sc := defScope s__law_is_number) (by decide +kernel)) (by decide) (fun _ _ _ _ _ => (dg_name 1 sc__law_is_number.nd)) (fun _ _ _ _ _ => (dpt_one (dt_cmp d2_ninX (op_ninX (room65 hr)) (de_v 1 (pv 1)) de_str (by with_unfolding_all rfl)))) (fun _ _ _ _ _ => (de_v 1 (pv 1)))) (de_lst da_nil) (nomark _))))) (dss_one (ds_ret de_bl)) dss_nil)
      (dss_one (ds_ret (de_or (de_cmp d2_ne (op_neD hr.units) (de_ixE (de_v 0 (pv 0)) de_int) de_str (nomark _)) (de_or1 (de_cmp d2_eq (op_eqD hr.units) (de_v 0 (pv 0)) de_str (nomark _)))))))) ?_
  refine ho__law_is_number fun z Qd ⟨h, hok⟩ q => ?_
  try dsimp only at *
  rw [st__law_is_number]
  rw [seq_mk]
  subst_eqs
  obtain ⟨l, rfl⟩ : ∃ l, z = SX.S l := ⟨tl z, (SX.S_tl z).symm⟩
  rw [tl_S] at q
  rw [SX.S_len] at h
  refine ⟨sh_str hok, ?_⟩
  have e0 : Str.ofString "" = SX.S [] := by decide +kernel
  have e48 : Str.ofString "0" = SX.S [48] := by decide +kernel
  unfold isN at q
  by_cases h0 : l = []
  · subst h0; rw [if_pos (by rw [e0]; exact eqv_self_str)]; exact q
  · rw [if_neg (by rw [e0, eqv_str]; simp only [decide_eq_true_eq]; exact fun e => h0 (S_inj e))]
    refine lc_fil fDg (by rw [signs_n, SX.S_len]; omega) (fun d m R S k1 k2 => ?_) ?_
    · obtain ⟨c, mc, rfl⟩ := signs_mem m
      subst_vars
      refine ⟨c, rfl, ?_⟩
      rw [fDg_c] at k1 k2
      rw [dg_in]
      cases hd : dgB c with
      | true => exact k2 (by rw [if_pos hd])
      | false => exact k1 _ (by rw [if_neg (by rw [hd]; decide)])
    · rw [signs_dg, dg_empty]
      refine ⟨sh_strs fun z m => ?_, ?_⟩
      · obtain ⟨c, mc, rfl⟩ := List.mem_map.mp m
        exact ok_of fun x mx => by rw [List.mem_singleton.mp mx]; exact ok_mem hok c (List.mem_filter.mp mc).1
      cases l with
      | nil => exact absurd rfl h0
      | cons c l =>
        cases ha : (c :: l).all dgB with
        | false =>
          rw [ha] at q
          exact q
        | true =>
          rw [ha] at q
          refine ⟨by rw [SX.S_len]; omega, c, by rw [tl_S, atI_at (by decide) (by simp)]; rfl, sh_str (ok_of fun x mx => by rw [List.mem_singleton.mp mx]; exact ok_mem hok c List.mem_cons_self), ?_⟩
          rw [ch_eqv e48]
          by_cases h48 : c = 48
          · subst h48
            refine ⟨sh_str hok, ?_⟩
            rw [e48, eqv_str]
            have e : decide (SX.S (48 :: l) = SX.S [48]) = ((48 :: l) == [48]) := by
              by_cases hl : l = []
              · subst hl; simp
              · rw [decide_eq_false fun z => hl (by have := S_inj z; simpa using this)]
                simp [hl]
            rw [e]
            simpa using q
          · rw [decide_eq_false h48]
            have e : ((c :: l).headD 0 != 48) = true := by simpa using h48
            rw [e] at q
            simpa using q
theorem ok_indent_of (T : Tx K mg f_need_characters f_number_state f__law_pen f__law_draw f__law_is_number f_indent_of f_next_state f__law_is_begun f__law_word f__law_bent f_first_fault f__law_due f__law_text f_parse_indent f__law_heard f_law fd_need_characters fd_number_state fd__law_pen fd__law_draw fd__law_is_number fd_indent_of fd_next_state fd__law_is_begun fd__law_word fd__law_bent fd_first_fault fd__law_due fd__law_text fd_parse_indent fd__law_heard fd_law) : FnD P w K mg base (L2.CX P w) 2 f_indent_of fd_indent_of ["runs", "tail"] sp_indent_of := by
  refine FnD.ofX T.d_indent_of.F sc_indent_of _ (fun cdv A outer s H E Z0 hA hr hz tk => (dss_cons (ds_expr (de_callX tk fo_need_characters (ok_need_characters T) hA (hr.mono (by decide)) rfl rfl T.d_need_characters.g T.d_need_characters.F.kp T.d_need_characters.b (da_cons (de_op d2_add op_addR (de_op d2_add op_addR (de_callB cd_sumE (cr_sumE rfl) rfl T.b_sum (by decide +kernel) (da_cons (de_v 0 (pv 0)) da_nil)) (de_callB cd_len call_len rfl T.b_len (by decide +kernel) (da_cons (de_v 0 (pv 0)) da_nil))) (de_v 1 (pv 1))) da_nil)))
      (dss_one (ds_ret (de_op d2_add op_addR (de_bm md_joinE PySem.F.plainAttrs_str PySem.F.slot_str_join PySem.F.type_str_join mt_join de_str (da_cons (de_lc rfl sc_indent_of.nd (di_e (de_v 0 (pv 0))) (blkOk_by (own := [("run", 2)]) (N := N_indent_of) (sc := defScope s_indent_of) (by decide +kernel)) (by decide) (fun _ _ _ _ _ => (dg_name 2 sc_indent_of.nd)) (fun _ _ _ _ _ => dpt_nil) (fun _ _ _ _ _ => (de_op d2_add op_addR (de_op d2_mul op_mulR de_str (de_v 2 (pv 2))) de_str))) da_nil)) (de_op d2_mul op_mulR de_str (de_v 1 (pv 1)))))))) ?_
  refine ho_indent_of fun x m Qd Ed ⟨⟨ls, hx⟩, h0, hl, m0, m1⟩ ⟨q1, q2⟩ => ?_
  try dsimp only at *
  rw [st_indent_of]
  rcases hx with rfl | rfl
  all_goals
    simp only [szD, stD, lsD] at h0 hl q1 q2
    have hs := Ints.sum_toI (h0.imp fun x h => h.1)
    have hsl := h0.sum_le
    nofun
    refine ⟨_, h0.asInts, by omega, ?_⟩
    refine ⟨fun hz => ?_, fun hz => ?_⟩
    · have h1 := Ints.le_sum (h0.imp fun x h => h.1) (B := 1000) (by omega)
      refine lc_map (fun d => .str (SX.S (List.replicate (toN d) 32 ++ [9]))) (by omega) (fun d m R hR => ?_) ?_
      · obtain ⟨x, rfl, hx⟩ := h1 d m
        subst_vars
        have e : Txt.mul (Str.ofString " ") x ++ Str.ofString "\t" = SX.S (List.replicate (toN (.int x)) 32 ++ [9]) := S_of_tl (by rw [tl_add, tl_mul1 tl_sp1, tl_tab1]; rfl)
        rw [e, len_sp1, len_sp, len_tab1]
        exact ⟨by omega, by omega, by omega, by omega, hR⟩
      · have e1 : (ls.map fun d => PyData.str (SX.S (List.replicate (toN d) 32 ++ [9]))) = (((ls.map toN).map fun r => List.replicate r 32 ++ [9]).map fun x => PyData.str (SX.S x)) := by rw [List.map_map, List.map_map]; rfl
        rw [e1]
        have hl := indP_len (ls.map toN)
        rw [List.length_map] at hl
        have e2 : ((((ls.map toN).map fun r => List.replicate r 32 ++ [9]).map SX.S).map fun x => x.length).sum = (indP (ls.map toN)).length := by
          rw [SX.lens, indP, List.length_flatten]
        nofun
        refine ⟨_, asStrs_S, by rw [e2, show (Str.ofString "").length = 0 from rfl]; omega, by omega, by omega, by rw [len_sp1]; omega, ?_, ?_⟩
        · rw [join_flat, SX.S_len, len_sp, ← indP]; omega
        · rw [join_flat, ← indP, show SX.S (indP (ls.map toN)) ++ Txt.mul (Str.ofString " ") m = SX.S (indL (ls.map toN) m.toNat) from S_of_tl (by rw [tl_add, tl_mul1 tl_sp1, indL])]
          exact q1 (by omega)
    · rw [show (List.map toI ls).sum + ↑ls.length + m = ((((ls.map toN).sum + ls.length + m.toNat : Nat)) : Int) by omega]
      exact q2 (by omega)
theorem ok_next_state (T : Tx K mg f_need_characters f_number_state f__law_pen f__law_draw f__law_is_number f_indent_of f_next_state f__law_is_begun f__law_word f__law_bent f_first_fault f__law_due f__law_text f_parse_indent f__law_heard f_law fd_need_characters fd_number_state fd__law_pen fd__law_draw fd__law_is_number fd_indent_of fd_next_state fd__law_is_begun fd__law_word fd__law_bent fd_first_fault fd__law_due fd__law_text fd_parse_indent fd__law_heard fd_law) : FnD P w K mg base CX0 2 f_next_state fd_next_state ["state", "char"] sp_next_state := by
  refine FnD.of0 T.d_next_state.F sc_next_state 0 _ (fun cdv A outer s H E Z0 hA hr hz => (dss_cons (ds_if (dt_cmp d2_inX (op_inX (room65 hr)) (de_v 0 (pv 0)) (de_tup (da_cons (de_c (C8.pe_gc rfl (glS T.c_START)) fun _ => .str _) (da_cons (de_c (C8.pe_gc rfl (glS T.c_POINT)) fun _ => .str _) da_nil))) (by with_unfolding_all rfl)) (dss_one (ds_ret (de_if (DWs.dt (dw_and (dt_cmp d2_eq (op_eqD hr.units) (de_v 0 (pv 0)) (de_c (C8.pe_gc rfl (glS T.c_START)) fun _ => .str _) (nomark _)) (dw_and1 (dt_cmp d2_eq (op_eqD hr.units) (de_v 1 (pv 1)) de_str (nomark _))))) (de_c (C8.pe_gc rfl (glS T.c_BARE)) fun _ => .str _) (de_callF fo_number_state (ok_number_state T) hA (hr.mono (by decide)) rfl rfl T.d_number_state.g T.d_number_state.F.kp T.d_number_state.b (da_cons (de_v 1 (pv 1)) (da_cons (de_c (C8.pe_gc rfl (glS T.c_ZERO_RUN)) fun _ => .str _) (da_cons (de_c (C8.pe_gc rfl (glS T.c_RUN)) fun _ => .str _) da_nil))))))) dss_nil)
      (dss_cons (ds_if (dt_cmp d2_eq (op_eqD hr.units) (de_v 0 (pv 0)) (de_c (C8.pe_gc rfl (glS T.c_PLUS)) fun _ => .str _) (nomark _)) (dss_one (ds_ret (de_callF fo_number_state (ok_number_state T) hA (hr.mono (by decide)) rfl rfl T.d_number_state.g T.d_number_state.F.kp T.d_number_state.b (da_cons (de_v 1 (pv 1)) (da_cons (de_c (C8.pe_gc rfl (glS T.c_ZERO_TAIL)) fun _ => .str _) (da_cons (de_c (C8.pe_gc rfl (glS T.c_TAIL)) fun _ => .str _) da_nil)))))) dss_nil)
      (dss_cons (ds_if (DWs.dt (dw_and (dt_cmp d2_inX (op_inX (room65 hr)) (de_v 0 (pv 0)) (de_tup (da_cons (de_c (C8.pe_gc rfl (glS T.c_RUN)) fun _ => .str _) (da_cons (de_c (C8.pe_gc rfl (glS T.c_TAIL)) fun _ => .str _) da_nil))) (by with_unfolding_all rfl)) (dw_and1 (dt_cmp d2_inX (op_inX (room65 hr)) (de_v 1 (pv 1)) (de_c (C8.pe_gc rfl (glS T.c_DIGITS)) fun _ => .str _) (by with_unfolding_all rfl))))) (dss_one (ds_ret (de_v 0 (pv 0)))) dss_nil)
      (dss_cons (ds_if (DWs.dt (dw_and (dt_cmp d2_inX (op_inX (room65 hr)) (de_v 0 (pv 0)) (de_tup (da_cons (de_c (C8.pe_gc rfl (glS T.c_BARE)) fun _ => .str _) (da_cons (de_c (C8.pe_gc rfl (glS T.c_ZERO_RUN)) fun _ => .str _) (da_cons (de_c (C8.pe_gc rfl (glS T.c_RUN)) fun _ => .str _) da_nil)))) (by with_unfolding_all rfl)) (dw_and1 (dt_cmp d2_eq (op_eqD hr.units) (de_v 1 (pv 1)) de_str (nomark _))))) (dss_one (ds_ret (de_c (C8.pe_gc rfl (glS T.c_PLUS)) fun _ => .str _))) dss_nil)
      (dss_one (ds_ret (de_if (DWs.dt (dw_and (dt_cmp d2_inX (op_inX (room65 hr)) (de_v 0 (pv 0)) (de_tup (da_cons (de_c (C8.pe_gc rfl (glS T.c_ZERO_RUN)) fun _ => .str _) (da_cons (de_c (C8.pe_gc rfl (glS T.c_RUN)) fun _ => .str _) da_nil))) (by with_unfolding_all rfl)) (dw_and1 (dt_cmp d2_eq (op_eqD hr.units) (de_v 1 (pv 1)) de_str (nomark _))))) (de_c (C8.pe_gc rfl (glS T.c_POINT)) fun _ => .str _) de_non)))))))) ?_
  refine ho_next_state fun a z Qd ⟨c, i, hz, hi, ha, hc⟩ q => ?_
  try dsimp only at *
  rw [st_next_state]
  subst hz ha
  rw [stC_N i hi] at q
  have q : Qd (Sl.d (ntD (nxQ i c))) [] := q
  have hs : SeqAt.shaped (.str (stN i)) = true := sh_str (stN_ok i hi)
  obtain ⟨n4, n5, n6, n7, n1, n3, n2, n0⟩ := stNames
  have c4 : stC (Str.ofString "zero run") = 4 := stC_N 4 (by decide)
  have c5 : stC (Str.ofString "run") = 5 := stC_N 5 (by decide)
  have c6 : stC (Str.ofString "zero tail") = 6 := stC_N 6 (by decide)
  have c7 : stC (Str.ofString "tail") = 7 := stC_N 7 (by decide)
  unfold nxQ at q
  rw [seq_mk]
  subst_eqs
  rw [in_sp i hi, eq_st i hi, ch_eqv (k := 45) (by decide +kernel), c4, c5]
  refine ⟨rfl, rfl, ?_⟩
  by_cases h02 : i = 0 ∨ i = 2
  · rw [if_pos h02] at q
    rw [if_pos (by simpa using h02)]
    refine ⟨hs, ?_⟩
    have hnum : ¬ (i = 0 ∧ c = 45) → (∃ c_1, (⟨#[c]⟩ : Str) = ⟨#[c_1]⟩ ∧ ∃ x, x < 8 ∧ ∃ x_1, x_1 < 8 ∧ Str.ofString "zero run" = stN x ∧ Str.ofString "run" = stN x_1 ∧ c_1 < 0x110000) ∧ Qd (Sl.d (ntD (nmQ ([c].headD 0) 4 5))) [] := fun h => by
      rw [if_neg h] at q
      exact ⟨⟨c, rfl, 4, by decide, 5, by decide, n4, n5, hc⟩, q⟩
    by_cases h0 : i = 0
    · rw [if_pos (by simpa using h0)]
      refine ⟨sh_sign hc, ?_⟩
      by_cases h45 : c = 45
      · rw [if_pos (by simpa using h45)]
        rw [if_pos ⟨h0, h45⟩] at q
        exact q
      · rw [if_neg (by simpa using h45)]
        exact hnum fun z => h45 z.2
    · rw [if_neg (by simpa using h0)]
      exact hnum fun z => h0 z.1
  rw [if_neg h02] at q
  rw [if_neg (by simpa using h02)]
  rw [seq_mk]
  subst_eqs
  rw [eq_pl i hi, c6, c7]
  refine ⟨hs, ?_⟩
  by_cases h3 : i = 3
  · rw [if_pos h3] at q
    rw [if_pos (by simpa using h3)]
    exact ⟨⟨c, rfl, 6, by decide, 7, by decide, n6, n7, hc⟩, q⟩
  rw [if_neg h3] at q
  rw [if_neg (by simpa using h3)]
  rw [seq_mk]
  subst_eqs
  rw [in_rt i hi]
  refine ⟨rfl, rfl, ?_⟩
  by_cases h57 : (i = 5 ∨ i = 7) ∧ dgB c = true
  · rw [if_pos h57] at q
    rw [if_pos (by simpa using h57.1)]
    refine ⟨c, rfl, ?_⟩
    rw [if_pos (dg_mem.mpr h57.2)]
    exact q
  rw [if_neg h57] at q
  refine and_share ?_ fun hY hA => ⟨c, rfl, by rw [if_neg fun m => h57 ⟨by simpa using hA, dg_mem.mp m⟩]; exact hY⟩
  rw [seq_mk]
  subst_eqs
  rw [in_bzr i hi, ch_eqv (k := 43) (by decide +kernel)]
  refine ⟨rfl, rfl, ?_⟩
  by_cases h145 : (i = 1 ∨ i = 4 ∨ i = 5) ∧ c = 43
  · rw [if_pos h145] at q
    rw [if_pos (by simpa using h145.1)]
    refine ⟨sh_sign hc, ?_⟩
    rw [if_pos (by simpa using h145.2)]
    exact q
  rw [if_neg h145] at q
  refine and_share ?_ fun hY hA => ⟨sh_sign hc, by rw [if_neg fun m => h145 ⟨by simpa using hA, by simpa using m⟩]; exact hY⟩
  nofun
  rw [in_zr i hi, ch_eqv (k := 46) (by decide +kernel)]
  refine ⟨rfl, rfl, ?_⟩
  by_cases h45 : (i = 4 ∨ i = 5) ∧ c = 46
  · rw [if_pos h45] at q
    rw [if_pos (by simpa using h45.1)]
    refine ⟨sh_sign hc, ?_⟩
    rw [if_pos (by simpa using h45.2)]
    exact q
  · rw [if_neg h45] at q
    refine and_share q fun hY hA => ⟨sh_sign hc, by rw [if_neg fun m => h45 ⟨by simpa using hA, by simpa using m⟩]; exact hY⟩
theorem ok__law_is_begun (T : Tx K mg f_need_characters f_number_state f__law_pen f__law_draw f__law_is_number f_indent_of f_next_state f__law_is_begun f__law_word f__law_bent f_first_fault f__law_due f__law_text f_parse_indent f__law_heard f_law fd_need_characters fd_number_state fd__law_pen fd__law_draw fd__law_is_number fd_indent_of fd_next_state fd__law_is_begun fd__law_word fd__law_bent fd_first_fault fd__law_due fd__law_text fd_parse_indent fd__law_heard fd_law) : FnD P w K mg base CX0 2 f__law_is_begun fd__law_is_begun ["_law_text_here"] sp__law_is_begun := by
  refine FnD.of0 T.d__law_is_begun.F sc__law_is_begun 0 _ (fun cdv A outer s H E Z0 hA hr hz => (dss_cons (ds_if (dt_cmp d2_inX (op_inX (room65 hr)) de_str (de_v 0 (pv 0)) (by with_unfolding_all rfl)) (dss_cons (ds_asg (de_bm md_part PySem.F.plainAttrs_str PySem.F.slot_str_partition PySem.F.type_str_partition mt_partition (de_v 0 (pv 0)) (da_cons de_str da_nil)) (dg_tup (n := 3) rfl (dgs_cons (dg_name 2 sc__law_is_begun.nd) (dgs_cons (dg_name 3 sc__law_is_begun.nd) (dgs_cons (dg_name 4 sc__law_is_begun.nd) dgs_nil)))))
      (dss_cons (ds_setLc 5 rfl sc__law_is_begun.nd (di_e (de_bm md_split PySem.F.plainAttrs_str PySem.F.slot_str_split PySem.F.type_str_split mt_split (de_v 2 (pv 2)) (da_cons de_str da_nil))) (blkOk_by (own := [("_law_word_here", 6)]) (N := N__law_is_begun) (sc := defScope s__law_is_begun) (by decide +kernel)) (by decide) (fun _ _ _ _ _ => (dg_name 6 sc__law_is_begun.nd)) (fun _ _ _ _ _ => (dpt_one (dt_not (dt_tru (de_callF fo__law_is_number (ok__law_is_number T) hA (hr.mono (by decide)) rfl rfl T.d__law_is_number.g T.d__law_is_number.F.kp T.d__law_is_number.b (da_cons (de_v 6 (pv 6)) da_nil)))))) (fun _ _ _ _ _ => (de_v 6 (pv 6))) (sw_true rfl rfl rfl (by decide +kernel)))
      (dss_one (ds_ret (de_and (de_or (de_cmp d2_eq (op_eqD hr.units) (de_v 2 (pv 2)) de_str (nomark _)) (de_or1 (de_cmp d2_eq (op_eqD hr.units) (de_v 5 (pv 5)) (de_lst da_nil) (nomark _)))) (de_and1 (de_or (de_cmp d2_eq (op_eqD hr.units) (de_v 4 (pv 4)) de_str (nomark _)) (de_or1 (de_callF fo__law_is_number (ok__law_is_number T) hA (hr.mono (by decide)) rfl rfl T.d__law_is_number.g T.d__law_is_number.F.kp T.d__law_is_number.b (da_cons (de_v 4 (pv 4)) da_nil)))))))))) dss_nil)
      (dss_cons (ds_if (dt_cmp d2_inX (op_inX (room65 hr)) (de_v 0 (pv 0)) (de_tup (da_cons de_str (da_cons de_str da_nil))) (by with_unfolding_all rfl)) (dss_one (ds_ret de_bl)) dss_nil)
      (dss_cons (ds_set 1 sc__law_is_begun.nd (de_bm md_split PySem.F.plainAttrs_str PySem.F.slot_str_split PySem.F.type_str_split mt_split (de_v 0 (pv 0)) (da_cons de_str da_nil)))
      (dss_cons (ds_if (dt_cmp d2_ne (op_neD hr.units) (de_lc rfl sc__law_is_begun.nd (di_e (de_slice (de_v 1 (pv 1)) dpo_none (dpo_some (de_neg de_int)))) (blkOk_by (own := [("_law_word_here", 6)]) (N := N__law_is_begun) (sc := defScope s__law_is_begun) (by decide +kernel)) (by decide) (fun _ _ _ _ _ => (dg_name 6 sc__law_is_begun.nd)) (fun _ _ _ _ _ => (dpt_one (dt_not (dt_tru (de_callF fo__law_is_number (ok__law_is_number T) hA (hr.mono (by decide)) rfl rfl T.d__law_is_number.g T.d__law_is_number.F.kp T.d__law_is_number.b (da_cons (de_v 6 (pv 6)) da_nil)))))) (fun _ _ _ _ _ => (de_v 6 (pv 6)))) (de_lst da_nil) (nomark _)) (dss_one (ds_ret de_bl)) dss_nil)
      (dss_one (ds_ret (de_or (de_and (de_cmp d2_eq (op_eqD hr.units) (de_ixE (de_v 1 (pv 1)) (de_neg de_int)) de_str (nomark _)) (de_and1 (de_cmp d2_bool op_gt (de_callB cd_len call_len rfl T.b_len (by decide +kernel) (da_cons (de_v 1 (pv 1)) da_nil)) de_int (nomark _)))) (de_or1 (de_callF fo__law_is_number (ok__law_is_number T) hA (hr.mono (by decide)) rfl rfl T.d__law_is_number.g T.d__law_is_number.F.kp T.d__law_is_number.b (da_cons (de_ixE (de_v 1 (pv 1)) (de_neg de_int)) da_nil))))))))))) ?_
  refine ho__law_is_begun fun z Qd ⟨h, hok⟩ q => ?_
  try dsimp only at *
  rw [st__law_is_begun]
  rw [seq_mk]
  subst_eqs
  obtain ⟨l, rfl⟩ : ∃ l, z = SX.S l := ⟨tl z, (SX.S_tl z).symm⟩
  rw [tl_S] at q
  rw [SX.S_len] at h
  obtain ⟨e43, e45, e46, e0⟩ := lits80
  refine ⟨43, e43, ?_⟩
  rw [tl_S]
  have hmem := ok_mem hok
  unfold begB at q
  by_cases hm : 43 ∈ l
  · rw [if_pos hm]
    rw [if_pos hm] at q
    rw [seq_mk]
    subst_eqs
    rw [e43, part_wd, if_pos hm]
    generalize hh : l.takeWhile (· != 43) = hd at q ⊢
    generalize hr : (l.dropWhile (· != 43)).drop 1 = rs at q ⊢
    have hhd : ∀ c ∈ hd, c ∈ l := fun c m => by rw [← hh] at m; exact (List.takeWhile_sublist _).subset m
    have hrs : ∀ c ∈ rs, c ∈ l := fun c m => by rw [← hr] at m; exact (List.dropWhile_sublist _).subset ((List.drop_sublist _ _).subset m)
    have lhd : hd.length ≤ l.length := by rw [← hh]; exact (List.takeWhile_sublist _).length_le
    have lrs : rs.length ≤ l.length := by rw [← hr]; exact Nat.le_trans (List.drop_sublist _ _).length_le (List.dropWhile_sublist _).length_le
    refine ⟨by simp [SX.S_len], by rw [SX.S_len]; omega, ?_⟩
    dsimp only
    rw [seq_mk]
    subst_eqs
    rw [e46, split_wd (by decide)]
    refine ⟨by simp [SX.S_len], by rw [SX.S_len]; omega, ?_⟩
    refine lc_fil fNm (by rw [List.length_map, List.length_map]; have := wdC_len (k := 46) (l := hd); omega) (fun d m R S k1 k2 => ?_) ?_
    · obtain ⟨z, mz, rfl⟩ := List.mem_map.mp m
      obtain ⟨w, mw, rfl⟩ := List.mem_map.mp mz
      obtain ⟨w1, w2⟩ := wdC_mem mw
      subst_vars
      rw [fNm_S] at k1 k2
      refine ⟨⟨by rw [SX.S_len]; omega, ok_of fun c mc => hmem c (hhd c (w2 c mc))⟩, ?_⟩
      cases hN : isN w with
      | true => exact k2 (by rw [if_pos hN])
      | false => exact k1 _ (by rw [if_neg (by rw [hN]; decide)])
    · rw [wds_nm]
      refine ⟨sh_str (ok_of fun c mc => hmem c (hhd c mc)), ?_⟩
      have fin : Qd (Sl.d (.bool (rs == [] || isN rs))) [] → (SeqAt.shaped (PyData.str (SX.S rs)) = true ∧
          if (PyData.str (SX.S rs)).eqv (PyData.str (Str.ofString "")) = true then Qd (Sl.d (PyData.bool true)) []
          else ((SX.S rs).length ≤ 100000 ∧ PyData.strOk (SX.S rs) = true) ∧ Qd (Sl.d (PyData.bool (isN rs))) []) := fun q => by
        refine ⟨sh_str (ok_of fun c mc => hmem c (hrs c mc)), ?_⟩
        rw [e0, eqv_SS]
        cases hr0 : rs == [] with
        | true => rw [hr0] at q; exact q
        | false =>
          rw [hr0] at q
          rw [if_neg (by decide)]
          exact ⟨⟨by rw [SX.S_len]; omega, ok_of fun c mc => hmem c (hrs c mc)⟩, q⟩
      rw [e45, eqv_SS]
      cases h45 : hd == [45] with
      | true =>
        rw [h45, Bool.true_or, Bool.true_and] at q
        exact fin q
      | false =>
        rw [h45, Bool.false_or] at q
        rw [if_neg (by decide)]
        refine ⟨sh_wds fun w mw c mc => hmem c (hhd c ((wdC_mem (List.mem_filter.mp mw).1).2 c mc)), ?_⟩
        rw [nm_empty]
        cases ha : (wdC 46 hd).all isN with
        | true =>
          rw [ha, Bool.true_and] at q
          exact fin q
        | false =>
          rw [ha] at q
          exact q
  · rw [if_neg hm]
    rw [if_neg hm] at q
    rw [seq_mk]
    subst_eqs
    refine ⟨rfl, rfl, ?_⟩
    rw [List.any_cons, List.any_cons, List.any_nil, e0, e45, eqv_SS, eqv_SS]
    have ec1 : (([] : List Nat) == l) = (l == []) := by cases l <;> rfl
    have ec2 : (([45] : List Nat) == l) = (l == [45]) := Bool.beq_comm
    rw [ec1, ec2, Bool.or_false]
    cases h1 : (l == [] || l == [45]) with
    | true =>
      rw [h1] at q
      exact q
    | false =>
      rw [h1] at q
      rw [if_neg (by decide)]
      rw [Bool.false_or] at q
      generalize hws : wdC 46 l = ws at q ⊢
      rw [seq_mk]
      subst_eqs
      rw [e46, split_wd (by decide), hws]
      refine ⟨by simp [SX.S_len], by rw [SX.S_len]; omega, ?_⟩
      have hwm : ∀ w ∈ ws, w.length ≤ l.length ∧ ∀ c ∈ w, c ∈ l := fun w m => wdC_mem (k := 46) (by rw [hws]; exact m)
      have hwn : ws ≠ [] := by rw [← hws]; exact wdC_ne _ _
      have hwl : ws.length ≤ l.length + 1 := by rw [← hws]; exact wdC_len
      obtain ⟨us, w, rfl⟩ : ∃ us w, ws = us ++ [w] := by
        rcases List.eq_nil_or_concat ws with e | ⟨a, x, e⟩
        · exact absurd e hwn
        · exact ⟨a, x, by rw [e, List.concat_eq_append]⟩
      have em : List.map PyData.str (List.map SX.S (us ++ [w])) = List.map PyData.str (List.map SX.S us) ++ [PyData.str (SX.S w)] := by simp
      rw [List.length_append, List.length_singleton] at hwl
      have hlw := hwm w (List.mem_append_right _ List.mem_cons_self)
      have okw : PyData.strOk (SX.S w) = true := ok_of fun c mc => hmem c (hlw.2 c mc)
      rw [List.dropLast_concat, show (us ++ [w]).getLastD [] = w by simp [List.getLastD_eq_getLast?], List.length_append, List.length_singleton] at q
      rw [seq_mk]
      subst_eqs
      rw [em, cut_last]
      refine lc_fil fNm (by rw [List.length_map, List.length_map]; omega) (fun d m R S k1 k2 => ?_) ?_
      · obtain ⟨z, mz, rfl⟩ := List.mem_map.mp m
        obtain ⟨w, mw, rfl⟩ := List.mem_map.mp mz
        obtain ⟨w1, w2⟩ := hwm w (List.mem_append_left _ mw)
        subst_vars
        rw [fNm_S] at k1 k2
        refine ⟨⟨by rw [SX.S_len]; omega, ok_of fun c mc => hmem c (w2 c mc)⟩, ?_⟩
        cases hN : isN w with
        | true => exact k2 (by rw [if_pos hN])
        | false => exact k1 _ (by rw [if_neg (by rw [hN]; decide)])
      rw [wds_nm, nm_empty]
      refine ⟨sh_wds fun v mv c mc => hmem c ((hwm v (List.mem_append_left _ (List.mem_filter.mp mv).1)).2 c mc), ?_⟩
      cases ha : us.all isN with
      | false =>
        rw [ha] at q
        exact q
      | true =>
        rw [ha, Bool.true_and] at q
        rw [if_neg (by decide)]
        refine ⟨.str (SX.S w), at_last, sh_str okw, sh_str (ok_of fun c mc => by cases mc), ?_⟩
        rw [eqv_SS]
        have fin : Qd (Sl.d (.bool (isN w))) [] → (∃ d,
                    atI (List.map PyData.str (List.map SX.S us) ++ [PyData.str (SX.S w)]) (-1) = some d ∧
                      match [Sl.d d] with
                      | [Sl.d (PyData.str z)] =>
                        (z.length ≤ 100000 ∧ PyData.strOk z = true) ∧ Qd (Sl.d (PyData.bool (isN (tl z)))) []
                      | x => False) := fun q => ⟨.str (SX.S w), at_last, ⟨by rw [SX.S_len]; omega, okw⟩, q⟩
        cases hw0 : w == [] with
        | true =>
          rw [hw0, Bool.true_and] at q
          rw [if_pos rfl]
          by_cases h1 : 1 < us.length + 1
          · rw [decide_eq_true h1, Bool.true_or] at q
            rw [if_pos (by rw [List.length_append, List.length_map, List.length_map, List.length_singleton]; omega)]
            exact q
          · rw [decide_eq_false h1, Bool.false_or] at q
            rw [if_neg (by rw [List.length_append, List.length_map, List.length_map, List.length_singleton]; omega)]
            exact fin q
        | false =>
          rw [hw0, Bool.false_and, Bool.false_or] at q
          rw [if_neg (by decide)]
          exact fin q
theorem ok__law_word (T : Tx K mg f_need_characters f_number_state f__law_pen f__law_draw f__law_is_number f_indent_of f_next_state f__law_is_begun f__law_word f__law_bent f_first_fault f__law_due f__law_text f_parse_indent f__law_heard f_law fd_need_characters fd_number_state fd__law_pen fd__law_draw fd__law_is_number fd_indent_of fd_next_state fd__law_is_begun fd__law_word fd__law_bent fd_first_fault fd__law_due fd__law_text fd_parse_indent fd__law_heard fd_law) : FnD P w K mg base CX0 2 f__law_word fd__law_word ["_law_pen_here"] sp__law_word := by
  refine FnD.of0 T.d__law_word.F sc__law_word 1 _ (fun cdv A outer s H E Z0 hA hr hz => (dss_cons (ds_set 1 sc__law_word.nd (de_callQ fo__law_draw (ok__law_draw T) hA (hr.mono (by decide)) rfl rfl T.d__law_draw.g T.d__law_draw.F.kp T.d__law_draw.b (da_cons (de_v 0 (pv 0)) (da_cons de_int da_nil))))
      (dss_cons (ds_if (dt_cmp d2_bool op_lt (de_v 1 (pv 1)) de_int (nomark _)) (dss_one (ds_ret (de_callTy cd_str cr_str rfl T.b_str (by decide +kernel) (da_cons (de_ixE (de_lst (da_cons de_int (da_cons de_int (da_cons de_int (da_cons de_int (da_cons de_int (da_cons de_int (da_cons (de_callQ fo__law_draw (ok__law_draw T) hA (hr.mono (by decide)) rfl rfl T.d__law_draw.g T.d__law_draw.F.kp T.d__law_draw.b (da_cons (de_v 0 (pv 0)) (da_cons de_int da_nil))) da_nil)))))))) (de_v 1 (pv 1))) da_nil)))) dss_nil)
      (dss_one (ds_ret (de_ixE (de_lst (da_cons (de_callTy cd_str cr_str rfl T.b_str (by decide +kernel) (da_cons (de_callQ fo__law_draw (ok__law_draw T) hA (hr.mono (by decide)) rfl rfl T.d__law_draw.g T.d__law_draw.F.kp T.d__law_draw.b (da_cons (de_v 0 (pv 0)) (da_cons (de_op d2_pow op_pow de_int de_int) da_nil))) da_nil)) (da_cons (de_callTy cd_str cr_str rfl T.b_str (by decide +kernel) (da_cons (de_op d2_add op_addR (de_op d2_pow op_pow de_int de_int) (de_v 1 (pv 1))) da_nil)) (da_cons (de_op d2_mul op_mulR de_str de_int) da_nil)))) (de_op d2_sub op_sub (de_v 1 (pv 1)) de_int))))))) ?_
  refine ho__law_word fun c n Qd p hn _ q => ?_
  try dsimp only at *
  rw [st__law_word]
  rw [seq_mk]
  subst_eqs
  refine ⟨_, p, by omega, ⟨by omega, by omega⟩, fun r1 a1 b1 c1 p1 => ?_⟩
  rw [seq_mk]
  subst_eqs
  by_cases h1 : r1 < 7
  · rw [if_pos h1]
    refine ⟨_, p1, by omega, ⟨by omega, by omega⟩, fun r2 a2 b2 c2 p2 => ?_⟩
    refine pickI (P := fun x => 0 ≤ x ∧ x ≤ 100) (by repeat (first | exact Ints.nil | refine Ints.cons (by first | omega | (constructor <;> omega)) ?_)) a1 (by simpa using h1) fun x hx => ?_
    obtain ⟨k1, k2⟩ := shown_ok (i := x) hx.1 (by omega)
    exact ⟨by omega, p2.cl, q _ (by omega) k2 c2 (p2.mono (by omega))⟩
  · rw [if_neg h1]
    nofun
    refine ⟨cpow (by omega) (by omega) (by omega) (by omega), _, p1, by omega, ⟨by decide, by decide⟩, fun r2 a2 b2 c2 p2 => ?_⟩
    have hb2 : r2 < 10 ^ 60 := b2
    have e59 : (10 : Int) ^ Int.toNat 59 = 10 ^ 59 := rfl
    rw [e59]
    refine ⟨by omega, cpow (by omega) (by omega) (by omega) (by omega), by omega, by omega, by omega, by decide, ?_⟩
    refine pickM (P := fun d => ∃ z, d = .str z ∧ z.length ≤ 190 ∧ PyData.strOk z = true) (fun d m => ?_) (by omega) (by simp; omega) fun d hd => ?_
    · simp only [List.mem_cons, List.not_mem_nil, or_false] at m
      obtain ⟨k1, k2⟩ := shown_ok (i := r2) a2 (by omega)
      obtain ⟨k3, k4⟩ := shown_ok (i := 10 ^ 59 + r1) (by omega) (by omega)
      rcases m with rfl | rfl | rfl
      · exact ⟨_, rfl, by omega, k2⟩
      · exact ⟨_, rfl, by omega, k4⟩
      · exact ⟨_, rfl, by decide +kernel, by decide +kernel⟩
    · obtain ⟨z, rfl, h2, h3⟩ := hd
      exact ⟨p2.cl, q z h2 h3 c2 (p2.mono (by omega))⟩
theorem ok__law_bent (T : Tx K mg f_need_characters f_number_state f__law_pen f__law_draw f__law_is_number f_indent_of f_next_state f__law_is_begun f__law_word f__law_bent f_first_fault f__law_due f__law_text f_parse_indent f__law_heard f_law fd_need_characters fd_number_state fd__law_pen fd__law_draw fd__law_is_number fd_indent_of fd_next_state fd__law_is_begun fd__law_word fd__law_bent fd_first_fault fd__law_due fd__law_text fd_parse_indent fd__law_heard fd_law) : FnD P w K mg base CX0 2 f__law_bent fd__law_bent ["_law_pen_here", "_law_text_here"] sp__law_bent := by
  refine FnD.of0 T.d__law_bent.F sc__law_bent 1 _ (fun cdv A outer s H E Z0 hA hr hz => (dss_cons (ds_set 2 sc__law_bent.nd (de_callQ fo__law_draw (ok__law_draw T) hA (hr.mono (by decide)) rfl rfl T.d__law_draw.g T.d__law_draw.F.kp T.d__law_draw.b (da_cons (de_v 0 (pv 0)) (da_cons de_int da_nil))))
      (dss_cons (ds_set 3 sc__law_bent.nd (de_callQ fo__law_draw (ok__law_draw T) hA (hr.mono (by decide)) rfl rfl T.d__law_draw.g T.d__law_draw.F.kp T.d__law_draw.b (da_cons (de_v 0 (pv 0)) (da_cons (de_op d2_add op_addR (de_callB cd_len call_len rfl T.b_len (by decide +kernel) (da_cons (de_v 1 (pv 1)) da_nil)) de_int) da_nil))))
      (dss_cons (ds_set 4 sc__law_bent.nd (de_op d2_add op_addR (de_op d2_mul op_mulR de_str de_int) de_str))
      (dss_cons (ds_set 4 sc__law_bent.nd (de_op d2_add op_addR (de_v 4 (pv 4)) de_str))
      (dss_cons (ds_set 5 sc__law_bent.nd (de_ixE (de_v 4 (pv 4)) (de_callQ fo__law_draw (ok__law_draw T) hA (hr.mono (by decide)) rfl rfl T.d__law_draw.g T.d__law_draw.F.kp T.d__law_draw.b (da_cons (de_v 0 (pv 0)) (da_cons (de_callB cd_len call_len rfl T.b_len (by decide +kernel) (da_cons (de_v 4 (pv 4)) da_nil)) da_nil)))))
      (dss_cons (ds_if (dt_cmp d2_bool op_lt (de_v 2 (pv 2)) de_int (nomark _)) (dss_one (ds_ret (de_op d2_add op_addR (de_op d2_add op_addR (de_slice (de_v 1 (pv 1)) dpo_none (dpo_some (de_v 3 (pv 3)))) (de_v 5 (pv 5))) (de_slice (de_v 1 (pv 1)) (dpo_some (de_op d2_add op_addR (de_v 3 (pv 3)) (de_v 2 (pv 2)))) dpo_none)))) dss_nil)
      (dss_cons (ds_if (dt_cmp d2_eq (op_eqD hr.units) (de_v 2 (pv 2)) de_int (nomark _)) (dss_one (ds_ret (de_op d2_add op_addR (de_slice (de_v 1 (pv 1)) dpo_none (dpo_some (de_v 3 (pv 3)))) (de_slice (de_v 1 (pv 1)) (dpo_some (de_op d2_add op_addR (de_v 3 (pv 3)) de_int)) dpo_none)))) dss_nil)
      (dss_cons (ds_if (dt_cmp d2_eq (op_eqD hr.units) (de_v 2 (pv 2)) de_int (nomark _)) (dss_one (ds_ret (de_op d2_add op_addR (de_op d2_add op_addR (de_slice (de_v 1 (pv 1)) dpo_none (dpo_some (de_v 3 (pv 3)))) (de_slice (de_v 1 (pv 1)) (dpo_some (de_v 3 (pv 3))) (dpo_some (de_op d2_add op_addR (de_v 3 (pv 3)) de_int)))) (de_slice (de_v 1 (pv 1)) (dpo_some (de_v 3 (pv 3))) dpo_none)))) dss_nil)
      (dss_cons (ds_if (dt_cmp d2_eq (op_eqD hr.units) (de_v 2 (pv 2)) de_int (nomark _)) (dss_one (ds_ret (de_op d2_add op_addR (de_op d2_add op_addR (de_slice (de_v 1 (pv 1)) dpo_none (dpo_some (de_v 3 (pv 3)))) (de_revS (de_slice (de_v 1 (pv 1)) (dpo_some (de_v 3 (pv 3))) (dpo_some (de_op d2_add op_addR (de_v 3 (pv 3)) de_int))))) (de_slice (de_v 1 (pv 1)) (dpo_some (de_op d2_add op_addR (de_v 3 (pv 3)) de_int)) dpo_none)))) dss_nil)
      (dss_cons (ds_if (dt_cmp d2_eq (op_eqD hr.units) (de_v 2 (pv 2)) de_int (nomark _)) (dss_one (ds_ret (de_slice (de_v 1 (pv 1)) dpo_none (dpo_some (de_v 3 (pv 3)))))) dss_nil)
      (dss_one (ds_ret (de_ifR (dtk_cmp d2_eq (op_eqD hr.units) (de_v 2 (pv 2)) (nomark _)) (det_repl (de_v 1 (pv 1))) (de_v 1 (pv 1)))))))))))))))) ?_
  refine ho__law_bent fun z c n Qd p hn ⟨hz, hok⟩ q => ?_
  try dsimp only at *
  rw [st__law_bent]
  rw [seq_mk]
  subst_eqs
  refine ⟨_, p, by omega, ⟨by omega, by omega⟩, fun r1 a1 b1 c1 p1 => ?_⟩
  rw [seq_mk]
  subst_eqs
  refine ⟨by omega, ?_⟩
  refine ⟨_, p1, by omega, ⟨by omega, by omega⟩, fun r2 a2 b2 c2 p2 => ?_⟩
  obtain ⟨A, hA⟩ : ∃ A, A = Str.ofString " !\"#$&'()*,/:;<=>?@ABCDEFGHIJKLMNOPQRSTUVWXYZ[\\]^_`" := ⟨_, rfl⟩
  obtain ⟨B, hB⟩ : ∃ B, B = Str.ofString "abcdefghijklmnopqrstuvwxyz{|}~\t\n" := ⟨_, rfl⟩
  obtain ⟨C, hC⟩ : ∃ C, C = Str.ofString "0123456789.+-" := ⟨_, rfl⟩
  have lA : A.length ≤ 100 ∧ PyData.strOk A = true := by rw [hA]; exact ⟨by decide +kernel, strOk_lit⟩
  have lB : B.length ≤ 100 ∧ PyData.strOk B = true := by rw [hB]; exact ⟨by decide +kernel, strOk_lit⟩
  have lC : 1 ≤ C.length ∧ C.length ≤ 100 ∧ PyData.strOk C = true := by rw [hC]; exact ⟨by decide +kernel, by decide +kernel, strOk_lit⟩
  rw [← hA, ← hB, ← hC]
  clear hA hB hC
  rw [seq_mk]
  subst_eqs
  have hm : (Txt.mul C 4).length ≤ 400 := by rw [Pz.len_mul, show Int.toNat 4 = 4 from rfl]; omega
  have hm1 : 4 ≤ (Txt.mul C 4).length := by rw [Pz.len_mul, show Int.toNat 4 = 4 from rfl]; omega
  refine ⟨by omega, by omega, by rw [show Int.toNat 4 = 4 from rfl]; omega, by omega, ?_⟩
  rw [seq_mk]
  subst_eqs
  refine ⟨by rw [len_add]; omega, ?_⟩
  obtain ⟨D, hD⟩ : ∃ D, D = Txt.mul C 4 ++ A ++ B := ⟨_, rfl⟩
  have lD : 1 ≤ D.length ∧ D.length ≤ 700 := by rw [hD, len_add, len_add]; omega
  have oD : PyData.strOk D = true := by rw [hD]; exact strOk_add (strOk_add (strOk_mul lC.2.2) lA.2) lB.2
  rw [← hD]
  clear hD hm hm1 lA lB lC
  rw [seq_mk]
  subst_eqs
  refine ⟨by omega, ?_⟩
  refine ⟨_, p2, by omega, ⟨by omega, by omega⟩, fun r3 a3 b3 c3 p3 => ?_⟩
  obtain ⟨x, ex, mx⟩ := atI_lt (xs := tl D) a3 (by rw [← Pz.len_tl]; exact b3)
  refine ⟨by omega, x, ex, ?_⟩
  have ox : PyData.strOk ⟨#[x]⟩ = true := strOk_sign (strOk_iff.mp oD x mx)
  have lx : (⟨#[x]⟩ : Str).length = 1 := rfl
  have cl : ∀ z ∈ [c3], Cl 1 z := fun z m => by cases List.mem_singleton.mp m; exact p3.cl
  have fin : ∀ y : Str, y.length ≤ 3 * z.length + 2 → PyData.strOk y = true → (Cl 1 c3 ∧ Qd (Sl.d (.str y)) [c3]) := fun y h1 h2 => ⟨p3.cl, q y h1 h2 c3 (p3.mono (by omega))⟩
  have hc : ∀ a b, (cutS z a b).length ≤ z.length := cutS_len z
  have oc : ∀ a b, PyData.strOk (cutS z a b) = true := fun a b => strOk_cutZ hok
  rw [seq_mk]
  subst_eqs
  by_cases k1 : r1 < 2
  · rw [if_pos k1]
    have := hc none (some r2)
    have := hc (some (r2 + r1)) none
    repeat (refine And.intro (by first | omega | (simp only [Pz.len_add]; omega)) ?_)
    exact fin _ (by rw [Pz.len_add, Pz.len_add]; omega) (strOk_add (strOk_add (oc _ _) ox) (oc _ _))
  rw [if_neg k1]
  rw [seq_mk]
  subst_eqs
  by_cases k2 : r1 = 2
  · rw [if_pos k2]
    have := hc none (some r2)
    have := hc (some (r2 + 1)) none
    repeat (refine And.intro (by first | omega | (simp only [Pz.len_add]; omega)) ?_)
    exact fin _ (by rw [Pz.len_add]; omega) (strOk_add (oc _ _) (oc _ _))
  rw [if_neg k2]
  rw [seq_mk]
  subst_eqs
  by_cases k3 : r1 = 3
  · rw [if_pos k3]
    have := hc none (some r2)
    have := hc (some r2) (some (r2 + 1))
    have := hc (some r2) none
    repeat (refine And.intro (by first | omega | (simp only [Pz.len_add]; omega)) ?_)
    exact fin _ (by rw [Pz.len_add, Pz.len_add]; omega) (strOk_add (strOk_add (oc _ _) (oc _ _)) (oc _ _))
  rw [if_neg k3]
  rw [seq_mk]
  subst_eqs
  by_cases k4 : r1 = 4
  · rw [if_pos k4]
    have := hc none (some r2)
    have := hc (some r2) (some (r2 + 2))
    have := hc (some (r2 + 2)) none
    have hv := rev_len (cutS z (some r2) (some (r2 + 2)))
    repeat (refine And.intro (by first | omega | (simp only [Pz.len_add]; omega)) ?_)
    exact fin _ (by rw [Pz.len_add, Pz.len_add]; omega) (strOk_add (strOk_add (oc _ _) (strOk_rev (oc _ _))) (oc _ _))
  rw [if_neg k4]
  rw [seq_mk]
  subst_eqs
  by_cases k5 : r1 = 5
  · rw [if_pos k5]
    have := hc none (some r2)
    repeat (refine And.intro (by first | omega | (simp only [Pz.len_add]; omega)) ?_)
    exact fin _ (by omega) (oc _ _)
  rw [if_neg k5]
  have l0 : (Str.ofString "+0").length = 2 := by decide +kernel
  have hr := TK.replace_len z (Str.ofString "+") (Str.ofString "+0")
  rw [l0] at hr
  nofun
  by_cases k6 : r1 = 6
  · rw [if_pos k6, l0]
    exact ⟨by omega, fin _ (by omega) (strOk_repl (by decide +kernel) hok strOk_lit)⟩
  · rw [if_neg k6]
    exact fin _ (by omega) hok
theorem ok_first_fault (T : Tx K mg f_need_characters f_number_state f__law_pen f__law_draw f__law_is_number f_indent_of f_next_state f__law_is_begun f__law_word f__law_bent f_first_fault f__law_due f__law_text f_parse_indent f__law_heard f_law fd_need_characters fd_number_state fd__law_pen fd__law_draw fd__law_is_number fd_indent_of fd_next_state fd__law_is_begun fd__law_word fd__law_bent fd_first_fault fd__law_due fd__law_text fd_parse_indent fd__law_heard fd_law) : FnD P w K mg base CX0 3 f_first_fault fd_first_fault ["text"] sp_first_fault := by
  refine FnD.of0 T.d_first_fault.F sc_first_fault 0 _ (fun cdv A outer s H E Z0 hA hr hz => (dss_cons (ds_set 1 sc_first_fault.nd (de_c (C8.pe_gc rfl (glS T.c_START)) fun _ => .str _))
      (dss_cons (ds_for PassesOwn.never rfl (di_enumY rfl T.b_enumerate (da_cons (de_v 0 (pv 0)) da_nil)) (dg_tup (n := 2) rfl (dgs_cons (dg_name 2 sc_first_fault.nd) (dgs_cons (dg_name 3 sc_first_fault.nd) dgs_nil))) (dss_cons (ds_set 1 sc_first_fault.nd (de_callF fo_next_state (ok_next_state T) hA (hr.mono (by decide)) rfl rfl T.d_next_state.g T.d_next_state.F.kp T.d_next_state.b (da_cons (de_v 1 (pv 1)) (da_cons (de_v 3 (pv 3)) da_nil))))
      (dss_one (ds_if (dt_cmp d2_isN op_isN (de_v 1 (pv 1)) de_non (nomark _)) (dss_one (ds_ret (de_v 2 (pv 2)))) dss_nil))))
      (dss_one (ds_ret (de_if (dt_cmp d2_inX (op_inX (room65 hr)) (de_v 1 (pv 1)) (de_gtup True.intro rfl T.c_FINAL (fun _ _ => (.cons (.str _) (.cons (.str _) .nil)))) (by with_unfolding_all rfl)) de_non (de_callB cd_len call_len rfl T.b_len (by decide +kernel) (da_cons (de_v 0 (pv 0)) da_nil)))))))) ?_
  refine ho_first_fault fun z Qd ⟨h, hok⟩ q => ?_
  try dsimp only at *
  rw [st_first_fault]
  rw [seq_mk]
  subst_eqs
  rw [seq_mk]
  subst_eqs
  have hchr : ∀ c ∈ tl z, c < 0x110000 := fun c m => by
    unfold PyData.strOk at hok
    have := Array.all_eq_true_iff_forall_mem.mp hok c (by simpa [tl] using m)
    simpa using this
  have hzl : z.length = (tl z).length := Pz.len_tl
  refine forL_ix (fun (ds : List PyData) (sl : Sls) (st : Sto) => ∃ (s a : Nat) (l : List Nat) (s_2 s_3 : Option Sl), sl = [some (.d (.str z)), some (.d (.str (stN s))), s_2, s_3] ∧ st = [] ∧ ds = enumD (a : Nat) (l.map fun c => PyData.str ⟨#[c]⟩) ∧ s < 8 ∧ ffG s a l = ffQ (tl z) ∧ a + l.length = z.length ∧ (∀ c ∈ l, c < 0x110000)) ?_ ?_ _ _ _ ⟨0, 0, tl z, _, _, rfl, rfl, rfl, by decide, rfl, by omega, hchr⟩
  · rintro sl st ⟨s, a, l, s_2, s_3, rfl, rfl, hd, hs, hf, hl, hc⟩
    obtain rfl : l = [] := by cases l with | nil => rfl | cons _ _ => cases hd
    rw [ffG] at hf
    rw [← hf] at q
    simp only [List.length_nil, Nat.add_zero] at hl
    subst hl
    nofun
    rw [in_fin s hs]
    refine ⟨rfl, rfl, ?_⟩
    by_cases h67 : s = 6 ∨ s = 7
    · rw [if_pos h67] at q
      rw [if_pos (by simpa using h67)]
      exact q
    · rw [if_neg h67] at q
      rw [if_neg (by simpa using h67)]
      exact ⟨by omega, q⟩
  · rintro R B d ds sl st ih ⟨s, a, l, s_2, s_3, rfl, rfl, hd, hs, hf, hl, hc⟩
    cases l with
    | nil => cases hd
    | cons c l =>
      rw [List.length_cons] at hl
      rw [List.map_cons, enumD, List.cons.injEq] at hd
      obtain ⟨rfl, rfl⟩ := hd
      have hcc := hc c List.mem_cons_self
      rw [ffG] at hf
      nofun
      rw [show [c].headD 0 = c from rfl, stC_N s hs]
      refine ⟨⟨c, rfl, s, hs, rfl, hcc⟩, ?_⟩
      cases e : nxQ s c with
      | none =>
        rw [e] at hf
        rw [← hf] at q
        exact q
      | some t =>
        rw [e] at hf
        exact ih _ _ ⟨t, a + 1, l, _, _, rfl, rfl, rfl, nxQ_lt e hs, hf, by omega, fun x m => hc x (List.mem_cons_of_mem _ m)⟩
theorem ok__law_due (T : Tx K mg f_need_characters f_number_state f__law_pen f__law_draw f__law_is_number f_indent_of f_next_state f__law_is_begun f__law_word f__law_bent f_first_fault f__law_due f__law_text f_parse_indent f__law_heard f_law fd_need_characters fd_number_state fd__law_pen fd__law_draw fd__law_is_number fd_indent_of fd_next_state fd__law_is_begun fd__law_word fd__law_bent fd_first_fault fd__law_due fd__law_text fd_parse_indent fd__law_heard fd_law) : FnD P w K mg base CX0 3 f__law_due fd__law_due ["_law_text_here"] sp__law_due := by
  refine FnD.of0 T.d__law_due.F sc__law_due 0 _ (fun cdv A outer s H E Z0 hA hr hz => (dss_cons (ds_for PassesOwn.never rfl (di_rng1 rfl T.b_range (da_cons (de_callB cd_len call_len rfl T.b_len (by decide +kernel) (da_cons (de_v 0 (pv 0)) da_nil)) da_nil)) (dg_name 1 sc__law_due.nd) (dss_one (ds_if (dt_not (dt_tru (de_callF fo__law_is_begun (ok__law_is_begun T) hA (hr.mono (by decide)) rfl rfl T.d__law_is_begun.g T.d__law_is_begun.F.kp T.d__law_is_begun.b (da_cons (de_slice (de_v 0 (pv 0)) dpo_none (dpo_some (de_op d2_add op_addR (de_v 1 (pv 1)) de_int))) da_nil)))) (dss_one (ds_ret (de_lst (da_cons (de_v 1 (pv 1)) da_nil)))) dss_nil)))
      (dss_cons (ds_asg (de_bm md_part PySem.F.plainAttrs_str PySem.F.slot_str_partition PySem.F.type_str_partition mt_partition (de_v 0 (pv 0)) (da_cons de_str da_nil)) (dg_tup (n := 3) rfl (dgs_cons (dg_name 2 sc__law_due.nd) (dgs_cons (dg_name 3 sc__law_due.nd) (dgs_cons (dg_name 4 sc__law_due.nd) dgs_nil)))))
      (dss_cons (ds_if (dt_cmp d2_eq (op_eqD hr.units) (de_v 4 (pv 4)) de_str (nomark _)) (dss_one (ds_ret (de_lst (da_cons (de_callB cd_len call_len rfl T.b_len (by decide +kernel) (da_cons (de_v 0 (pv 0)) da_nil)) da_nil)))) dss_nil)
      (dss_cons (ds_set 5 sc__law_due.nd (de_if (dt_cmp d2_eq (op_eqD hr.units) (de_v 2 (pv 2)) de_str (nomark _)) (de_lst da_nil) (de_lc rfl sc__law_due.nd (di_e (de_bm md_split PySem.F.plainAttrs_str PySem.F.slot_str_split PySem.F.type_str_split mt_split (de_v 2 (pv 2)) (da_cons de_str da_nil))) (blkOk_by (own := [("_law_word_here", 7)]) (N := N__law_due) (sc := defScope s__law_due) (by decide +kernel)) (by decide) (fun _ _ _ _ _ => (dg_name 7 sc__law_due.nd)) (fun _ _ _ _ _ => dpt_nil) (fun _ _ _ _ _ => (de_callTy cd_intS cr_intS rfl T.b_int (by decide +kernel) (da_cons (de_v 7 (pv 7)) da_nil))))))
      (dss_cons (ds_set 6 sc__law_due.nd (de_op d2_add op_addR (de_op d2_add op_addR (de_callB cd_sumE (cr_sumE rfl) rfl T.b_sum (by decide +kernel) (da_cons (de_v 5 (pv 5)) da_nil)) (de_callB cd_len call_len rfl T.b_len (by decide +kernel) (da_cons (de_v 5 (pv 5)) da_nil))) (de_callTy cd_intS cr_intS rfl T.b_int (by decide +kernel) (da_cons (de_v 4 (pv 4)) da_nil))))
      (dss_cons (ds_if (dt_cmp d2_bool op_gt (de_v 6 (pv 6)) de_int (nomark _)) (dss_one (ds_ret (de_v 6 (pv 6)))) dss_nil)
      (dss_one (ds_ret (de_op d2_add op_addR (de_bm md_joinE PySem.F.plainAttrs_str PySem.F.slot_str_join PySem.F.type_str_join mt_join de_str (da_cons (de_lc rfl sc__law_due.nd (di_e (de_v 5 (pv 5))) (blkOk_by (own := [("_law_many", 8)]) (N := N__law_due) (sc := defScope s__law_due) (by decide +kernel)) (by decide) (fun _ _ _ _ _ => (dg_name 8 sc__law_due.nd)) (fun _ _ _ _ _ => dpt_nil) (fun _ _ _ _ _ => (de_op d2_add op_addR (de_op d2_mul op_mulR de_str (de_v 8 (pv 8))) de_str))) da_nil)) (de_op d2_mul op_mulR de_str (de_callTy cd_intS cr_intS rfl T.b_int (by decide +kernel) (da_cons (de_v 4 (pv 4)) da_nil))))))))))))) ?_
  refine ho__law_due fun z Qd ⟨h, hok⟩ q => ?_
  try dsimp only at *
  rw [st__law_due]
  rw [seq_mk]
  subst_eqs
  obtain ⟨l, rfl⟩ : ∃ l, z = SX.S l := ⟨tl z, (SX.S_tl z).symm⟩
  rw [SX.S_len] at h
  obtain ⟨e43, e45, e46, e0⟩ := lits80
  have hmem := ok_mem hok
  refine ⟨by rw [SX.S_len]; omega, by omega, by rw [SX.S_len]; omega, ?_⟩
  rw [SX.S_len, Int.toNat_natCast]
  refine forL_ix (fun (ds : List PyData) (sl : Sls) (st : Sto) => ∃ (s a : Nat) (s_1 s_2 s_3 s_4 s_5 s_6 s_7 s_8 : Option Sl), sl = [some (.d (.str (SX.S l))), s_1, s_2, s_3, s_4, s_5, s_6, s_7, s_8] ∧ st = [] ∧ a + ds.length = l.length ∧ ds = rng (a : Nat) ds.length ∧ runQ 0 (l.take a) = some s ∧ ffG s a (l.drop a) = ffQ l) ?_ ?_ _ _ _ ⟨0, 0, _, _, _, _, _, _, _, _, rfl, rfl, by rw [len_rng]; omega, by rw [len_rng]; rfl, rfl, rfl⟩
  · rintro sl st ⟨s, a, s_1, s_2, s_3, s_4, s_5, s_6, s_7, s_8, rfl, rfl, h1, h2, h3, h4⟩
    simp only [List.length_nil, Nat.add_zero] at h1
    subst h1
    rw [List.take_length] at h3
    rw [List.drop_length, ffG] at h4
    rw [seq_mk]
    subst_eqs
    rw [e43]
    refine ⟨by simp [SX.S_len], by rw [SX.S_len]; omega, ?_⟩
    by_cases h67 : s = 6 ∨ s = 7
    · rw [if_pos h67] at h4
      obtain ⟨rs, t, rfl⟩ := sh_of h4.symm
      rw [part_sh]
      dsimp only
      rw [seq_mk]
      subst_eqs
      refine ⟨sh_str (ok_of fun c mc => by have := numL_ok mc; omega), ?_⟩
      obtain ⟨p1, p2⟩ := shQ_parts (rs := rs) (t := t)
      have hnt : numL t ≠ [] := by
        rcases Nat.eq_zero_or_pos t with z | z
        · subst z; rw [numL_zero]; exact nofun
        · obtain ⟨c, r, e, _⟩ := numL_head z
          rw [e]; exact nofun
      rw [if_neg (by rw [e0, eqv_SS]; simpa using hnt)]
      have hhd : (hdQ rs).length ≤ 640 := by rw [shQ_hd, List.length_append] at h; omega
      have hge := hdQ_ge (rs := rs)
      refine seq_cut ((fun (ds : List PyData) (sl : Sls) (st : Sto) => ∃ (x : Unit) (s_1 s_3 s_6 s_7 s_8 : Option Sl), sl = [some (.d (.str (SX.S (shQ rs t)))), s_1, some (.d (.str (SX.S (hdQ rs)))), s_3, some (.d (.str (SX.S (numL t)))), some (.d (.list (rs.map fun n => .int (n : Nat)))), s_6, s_7, s_8] ∧ st = [] ∧ True) []) (fun R2 hR2 => ?_) ?_
      · nofun
        refine ⟨sh_str (ok_of fun c mc => hmem c (by rw [shQ_hd]; exact List.mem_append_left _ mc)), ?_⟩
        rw [e45, eqv_SS]
        by_cases hr : rs = []
        · subst hr
          rw [if_pos (show (hdQ [] == [45]) = true from rfl)]
          exact hR2 _ _ ⟨(), _, _, _, _, _, rfl, rfl, trivial⟩
        · rw [if_neg (by
            intro e
            have e : hdQ rs = [45] := by simpa using e
            exact hr (hdQ_inj (rs' := []) e)), split_hd hr]
          refine ⟨by simp [e46, SX.S_len], by rw [SX.S_len]; omega, ?_⟩
          refine lc_map (fun d => .int (NumText.digitsVal (tl (toZ d)) : Nat)) (by rw [List.length_map, List.length_map, List.length_map]; omega) (fun d m R hR => ?_) ?_
          · obtain ⟨z, mz, rfl⟩ := List.mem_map.mp m
            obtain ⟨l, ml, rfl⟩ := List.mem_map.mp mz
            obtain ⟨r, mr, rfl⟩ := List.mem_map.mp ml
            have h5 : (numL r).length ≤ 640 := Nat.le_trans (p1 r mr) h
            subst_vars
            refine ⟨by rw [SX.S_len]; exact h5, _, int_numS h5, ?_⟩
            have ev : (NumText.digitsVal (tl (toZ (PyData.str (SX.S (numL r))))) : Nat) = r := by
              rw [show toZ (PyData.str (SX.S (numL r))) = SX.S (numL r) from rfl, show tl (SX.S (numL r)) = numL r from tl_S .., numL_val]
            rw [ev] at hR
            exact hR
          · have em : (((rs.map numL).map SX.S).map PyData.str).map (fun d => PyData.int (NumText.digitsVal (tl (toZ d)) : Nat)) = rs.map fun n => .int (n : Nat) := by
              rw [List.map_map, List.map_map, List.map_map]
              refine List.map_congr_left fun r _ => ?_
              show PyData.int (NumText.digitsVal (tl (SX.S (numL r))) : Nat) = _
              rw [show tl (SX.S (numL r)) = numL r from tl_S .., numL_val]
            rw [em]
            exact hR2 _ _ ⟨(), _, _, _, _, _, rfl, rfl, trivial⟩
      · rintro sl st ⟨x, s_1, s_3, s_6, s_7, s_8, rfl, rfl, hx⟩
        rw [seq_mk]
        subst_eqs
        have e0' : (rs.map fun n : Nat => PyData.int (n : Nat)) = (rs.map fun n : Nat => (n : Int)).map .int := by rw [List.map_map]; rfl
        refine ⟨rs.map fun n : Nat => (n : Int), by rw [e0']; exact asInts_map _, by rw [SX.S_len]; omega, (t : Nat), int_numS (by omega), ?_⟩
        rw [sum_cast, List.length_map]
        have qh : Qd (Sl.d (heQ (.str (SX.S (shQ rs t))))) [] := q
        rw [seq_mk]
        subst_eqs
        by_cases hgt : 1000 < rs.sum + rs.length + t
        · rw [he_len (by rw [pn_sh, if_pos hgt])] at qh
          rw [if_pos (by omega)]
          rw [show ((rs.sum : Nat) : Int) + (rs.length : Int) + (t : Int) = ((rs.sum + rs.length + t : Nat) : Int) by omega]
          exact qh
        · rw [he_ok (by rw [pn_sh, if_neg hgt])] at qh
          rw [if_neg (by omega)]
          refine lc_map (fun d => .str (SX.S (List.replicate (toN d) 32 ++ [9]))) (by rw [List.length_map]; omega) (fun d m R hR => ?_) ?_
          · obtain ⟨r, mr, rfl⟩ := List.mem_map.mp m
            have := mem_sum mr
            subst_vars
            have e : Txt.mul (Str.ofString " ") (r : Int) ++ Str.ofString "\t" = SX.S (List.replicate (toN (.int (r : Int))) 32 ++ [9]) := S_of_tl (by rw [tl_add, tl_mul1 tl_sp1, tl_tab1]; rfl)
            rw [e, len_sp1, len_sp, len_tab1]
            exact ⟨by omega, by omega, by omega, by omega, hR⟩
          · have e1 : ((rs.map fun n : Nat => PyData.int (n : Nat)).map fun d => PyData.str (SX.S (List.replicate (toN d) 32 ++ [9]))) = ((rs.map fun r => List.replicate r 32 ++ [9]).map fun x => PyData.str (SX.S x)) := by rw [List.map_map, List.map_map]; rfl
            rw [e1]
            have hl := indP_len rs
            have e2 : (((rs.map fun r => List.replicate r 32 ++ [9]).map SX.S).map fun x => x.length).sum = (indP rs).length := by
              rw [SX.lens, indP, List.length_flatten]
            nofun
            refine ⟨_, asStrs_S, by rw [e2, show (Str.ofString "").length = 0 from rfl]; omega, by rw [SX.S_len]; omega, (t : Nat), int_numS (by omega), by omega, by omega, by rw [len_sp1]; omega, ?_, ?_⟩
            · rw [join_flat, SX.S_len, len_sp, ← indP]; omega
            · rw [join_flat, ← indP, show SX.S (indP rs) ++ Txt.mul (Str.ofString " ") (t : Int) = SX.S (indL rs t) from S_of_tl (by rw [tl_add, tl_mul1 tl_sp1, indL]; rfl)]
              exact qh
    · have hend := (run_end h3).mpr h67
      rw [if_neg h67] at h4
      have er : (Txt.partition (SX.S l) (SX.S [43])).2.2 = SX.S [] := by
        rw [part_wd]
        split
        · rw [hend]
        · rfl
      rw [er]
      rw [seq_mk]
      subst_eqs
      refine ⟨sh_str (ok_of fun c mc => by cases mc), ?_⟩
      rw [if_pos (by rw [e0]; exact eqv_self_str)]
      have eq : pnA (.str (SX.S l)) = .err "InvalidNotation" [("at", .int (l.length : Nat))] := by
        unfold pnA
        dsimp only
        rw [tl_S, ← h4]
      have q2 : Qd (Sl.d (heQ (.str (SX.S l)))) [] := q
      rw [he_at eq] at q2
      refine ⟨by rw [SX.S_len]; omega, ?_⟩
      rw [SX.S_len]
      exact q2
  · rintro R B d ds sl st ih ⟨s, a, s_1, s_2, s_3, s_4, s_5, s_6, s_7, s_8, rfl, rfl, h1, h2, h3, h4⟩
    rw [List.length_cons] at h1
    rw [List.length_cons, rng_succ, List.cons.injEq] at h2
    obtain ⟨rfl, h2⟩ := h2
    nofun
    have ha : a < l.length := by omega
    rw [cutS_S (by omega), show ((a : Int) + 1).toNat = a + 1 by omega]
    have hd := List.drop_eq_getElem_cons ha
    obtain ⟨b1, b2⟩ := beg_step (c := l[a]) (r := l.drop (a + 1)) (by rw [← hd, List.take_append_drop]) h3 ha
    rw [tl_S, b1]
    rw [hd, ffG] at h4
    refine ⟨by rw [SX.S_len]; omega, ⟨by rw [SX.S_len, List.length_take]; omega, ok_of fun c mc => hmem c (List.mem_of_mem_take mc)⟩, ?_⟩
    cases e : nxQ s l[a] with
    | none =>
      rw [e] at h4
      have eq : pnA (.str (SX.S l)) = .err "InvalidNotation" [("at", .int (a : Nat))] := by
        unfold pnA
        dsimp only
        rw [tl_S, ← h4]
      have q2 : Qd (Sl.d (heQ (.str (SX.S l)))) [] := q
      rw [he_at eq] at q2
      exact q2
    | some t =>
      rw [e] at h4
      exact ih _ _ ⟨t, a + 1, _, _, _, _, _, _, _, _, rfl, rfl, by omega, by rw [show (((a + 1 : Nat) : Int)) = (a : Int) + 1 by omega]; exact h2, b2 t e, h4⟩
theorem ok__law_text (T : Tx K mg f_need_characters f_number_state f__law_pen f__law_draw f__law_is_number f_indent_of f_next_state f__law_is_begun f__law_word f__law_bent f_first_fault f__law_due f__law_text f_parse_indent f__law_heard f_law fd_need_characters fd_number_state fd__law_pen fd__law_draw fd__law_is_number fd_indent_of fd_next_state fd__law_is_begun fd__law_word fd__law_bent fd_first_fault fd__law_due fd__law_text fd_parse_indent fd__law_heard fd_law) : FnD P w K mg base CX0 3 f__law_text fd__law_text ["_law_pen_here"] sp__law_text := by
  refine FnD.of0 T.d__law_text.F sc__law_text 1 _ (fun cdv A outer s H E Z0 hA hr hz => (dss_cons (ds_set 1 sc__law_text.nd (de_callQ fo__law_draw (ok__law_draw T) hA (hr.mono (by decide)) rfl rfl T.d__law_draw.g T.d__law_draw.F.kp T.d__law_draw.b (da_cons (de_v 0 (pv 0)) (da_cons de_int da_nil))))
      (dss_cons (ds_set 2 sc__law_text.nd (de_callQ fo__law_word (ok__law_word T) hA (hr.mono (by decide)) rfl rfl T.d__law_word.g T.d__law_word.F.kp T.d__law_word.b (da_cons (de_v 0 (pv 0)) da_nil)))
      (dss_cons (ds_if (dt_cmp d2_eq (op_eqD hr.units) (de_v 1 (pv 1)) de_int (nomark _)) (dss_one (ds_ret (de_op d2_add op_addR de_str (de_v 2 (pv 2))))) dss_nil)
      (dss_cons (ds_set 3 sc__law_text.nd (de_op d2_add op_addR (de_op d2_add op_addR (de_bm md_joinE PySem.F.plainAttrs_str PySem.F.slot_str_join PySem.F.type_str_join mt_join de_str (da_cons (de_lc rfl sc__law_text.nd (di_rng1 rfl T.b_range (da_cons (de_op d2_add op_addR de_int (de_callQ fo__law_draw (ok__law_draw T) hA (hr.mono (by decide)) rfl rfl T.d__law_draw.g T.d__law_draw.F.kp T.d__law_draw.b (da_cons (de_v 0 (pv 0)) (da_cons de_int da_nil)))) da_nil)) (blkOk_by (own := [("_law_k", 4)]) (N := N__law_text) (sc := defScope s__law_text) (by decide +kernel)) (by decide) (fun _ _ _ _ _ => (dg_name 4 sc__law_text.nd)) (fun _ _ _ _ _ => dpt_nil) (fun _ _ _ _ _ => (de_callQ fo__law_word (ok__law_word T) hA (hr.mono (by decide)) rfl rfl T.d__law_word.g T.d__law_word.F.kp T.d__law_word.b (da_cons (de_v 0 (pv 0)) da_nil)))) da_nil)) de_str) (de_v 2 (pv 2))))
      (dss_one (ds_ret (de_if (dt_cmp d2_bool op_le (de_callB cd_len call_len rfl T.b_len (by decide +kernel) (da_cons (de_v 3 (pv 3)) da_nil)) de_int (nomark _)) (de_v 3 (pv 3)) (de_op d2_add op_addR de_str (de_v 2 (pv 2))))))))))) ?_
  refine ho__law_text fun c n Qd p hn _ q => ?_
  try dsimp only at *
  rw [st__law_text]
  rw [seq_mk]
  subst_eqs
  refine ⟨_, p, by omega, ⟨by omega, by omega⟩, fun r1 a1 b1 c1 p1 => ?_⟩
  rw [seq_mk]
  subst_eqs
  refine ⟨_, p1, by omega, fun t ht hto c2 p2 => ?_⟩
  have l1 : (Str.ofString "-+").length = 2 := by decide +kernel
  have l2 : (Str.ofString "0.0+").length = 4 := by decide +kernel
  have l3 : (Str.ofString "+").length = 1 := by decide +kernel
  have l4 : (Str.ofString ".").length = 1 := by decide +kernel
  rw [seq_mk]
  subst_eqs
  by_cases h0 : r1 = 0
  · rw [if_pos h0]
    exact ⟨by omega, p2.cl, q _ (by rw [len_add]; omega) (strOk_add strOk_lit hto) c2 (p2.mono (by omega))⟩
  · rw [if_neg h0]
    nofun
    refine ⟨_, p2, by omega, ⟨by omega, by omega⟩, fun r2 a2 b2 c3 p3 => ?_⟩
    refine ⟨by omega, by omega, ?_⟩
    refine lcL_ind (fun r acc st => ∃ (L : List (List Nat)) (j : Nat) (c : Ct), acc = L.map (fun x => PyData.str (SX.S x)) ∧ st = [c] ∧ Pen j c ∧ (∀ x ∈ L, x.length ≤ 190 ∧ ∀ c ∈ x, c < 0x110000) ∧ L.length + r.length ≤ 4 ∧ j + 2 * r.length ≤ n + 12) ?_ ?_ _ _ _ ⟨[], _, _, rfl, rfl, p3, (fun c m => by cases m), by rw [len_rng]; simp; omega, by rw [len_rng]; omega⟩
    · rintro acc st ⟨L, j, c, rfl, rfl, pj, hL, hl, hj⟩
      simp only [List.length_nil, Nat.add_zero, Nat.mul_zero] at hl hj
      have hsum : (((L.map SX.S).map fun x => x.length).sum) ≤ 190 * L.length := by
        rw [SX.lens]
        have := sum_le_nat (B := 190) (l := L.map List.length) (fun x m => by obtain ⟨y, my, rfl⟩ := List.mem_map.mp m; exact (hL y my).1)
        rw [List.length_map] at this
        omega
      have hjl := joinL_lenG (sep := [46]) (B := 190) (l := L) (fun x m => (hL x m).1)
      rw [List.length_singleton] at hjl
      have hj46 : Txt.join (Str.ofString ".") (L.map SX.S) = SX.S (TL.joinL [46] L) := by
        rw [lits80.2.2.1, SX.join_S]
      have hok : PyData.strOk (SX.S (TL.joinL [46] L)) = true := ok_of fun c m => by
        rcases joinL_mem m with k | ⟨x, mx, k⟩
        · rw [List.mem_singleton.mp k]; decide
        · exact (hL x mx).2 c k
      refine ⟨_, asStrs_S, by rw [List.length_map, l4]; omega, ?_⟩
      rw [hj46]
      simp only [Pz.len_add, SX.S_len]
      refine ⟨by omega, by omega, by omega, ?_⟩
      have cl : ∀ z ∈ [c], Cl 1 z := fun z m => by cases List.mem_singleton.mp m; exact pj.cl
      by_cases h200 : (((joinL [46] L).length + (Str.ofString "+").length + t.length : Nat) : Int) ≤ 200
      · rw [if_pos h200]
        exact ⟨cl, q _ (by rw [Pz.len_add, Pz.len_add, SX.S_len]; omega) (strOk_add (strOk_add hok strOk_lit) hto) c (pj.mono (by omega))⟩
      · rw [if_neg h200]
        exact ⟨by omega, cl, q _ (by rw [Pz.len_add]; omega) (strOk_add strOk_lit hto) c (pj.mono (by omega))⟩
    · rintro R d r acc st ih ⟨L, j, c, rfl, rfl, pj, hL, hl, hj⟩
      rw [List.length_cons] at hl hj
      subst_vars
      refine ⟨_, pj, by omega, fun z hz hzo c4 p4 => ?_⟩
      refine ⟨by rw [List.length_map]; omega, ih _ _ ⟨L ++ [tl z], _, _, by rw [List.map_append]; simp [SX.S_tl], rfl, p4, fun x m => ?_, by rw [List.length_append, List.length_singleton]; omega, by omega⟩⟩
      rcases List.mem_append.mp m with m | m
      · exact hL x m
      · rw [List.mem_singleton.mp m]
        exact ⟨by rw [← Pz.len_tl]; exact hz, strOk_iff.mp hzo⟩
theorem ok_parse_indent (T : Tx K mg f_need_characters f_number_state f__law_pen f__law_draw f__law_is_number f_indent_of f_next_state f__law_is_begun f__law_word f__law_bent f_first_fault f__law_due f__law_text f_parse_indent f__law_heard f_law fd_need_characters fd_number_state fd__law_pen fd__law_draw fd__law_is_number fd_indent_of fd_next_state fd__law_is_begun fd__law_word fd__law_bent fd_first_fault fd__law_due fd__law_text fd_parse_indent fd__law_heard fd_law) : FnD P w K mg base (L2.CX P w) 4 f_parse_indent fd_parse_indent ["text"] sp_parse_indent := by
  refine FnD.ofX T.d_parse_indent.F sc_parse_indent _ (fun cdv A outer s H E Z0 hA hr hz tk => (dss_cons (ds_if (dt_not (dt_tru (de_callB cd_isi call_isi2 rfl T.b_isinstance (by decide +kernel) (da_cons (de_v 0 (pv 0)) (da_cons (de_ty (T := "str") rfl T.b_str (by decide +kernel)) da_nil))))) (dss_one (ds_raise1 "at" rfl tk T.mk_InvalidNotation hr rfl (da_cons de_int da_nil))) dss_nil)
      (dss_cons (ds_set 1 sc_parse_indent.nd (de_callF fo_first_fault (ok_first_fault T) hA (hr.mono (by decide)) rfl rfl T.d_first_fault.g T.d_first_fault.F.kp T.d_first_fault.b (da_cons (de_v 0 (pv 0)) da_nil)))
      (dss_cons (ds_if (dt_cmp d2_notN op_notN (de_v 1 (pv 1)) de_non (nomark _)) (dss_one (ds_raise1 "at" rfl tk T.mk_InvalidNotation hr rfl (da_cons (de_v 1 (pv 1)) da_nil))) dss_nil)
      (dss_cons (ds_asg (de_bm md_split PySem.F.plainAttrs_str PySem.F.slot_str_split PySem.F.type_str_split mt_split (de_v 0 (pv 0)) (da_cons de_str da_nil)) (dg_tupL (n := 2) rfl (dgs_cons (dg_name 2 sc_parse_indent.nd) (dgs_cons (dg_name 3 sc_parse_indent.nd) dgs_nil))))
      (dss_cons (ds_set 4 sc_parse_indent.nd (de_if (dt_cmp d2_eq (op_eqD hr.units) (de_v 2 (pv 2)) de_str (nomark _)) (de_lst da_nil) (de_lc rfl sc_parse_indent.nd (di_e (de_bm md_split PySem.F.plainAttrs_str PySem.F.slot_str_split PySem.F.type_str_split mt_split (de_v 2 (pv 2)) (da_cons de_str da_nil))) (blkOk_by (own := [("word", 5)]) (N := N_parse_indent) (sc := defScope s_parse_indent) (by decide +kernel)) (by decide) (fun _ _ _ _ _ => (dg_name 5 sc_parse_indent.nd)) (fun _ _ _ _ _ => dpt_nil) (fun _ _ _ _ _ => (de_callTy cd_intS cr_intS rfl T.b_int (by decide +kernel) (da_cons (de_v 5 (pv 5)) da_nil))))))
      (dss_cons (ds_expr (de_callX tk fo_need_characters (ok_need_characters T) hA (hr.mono (by decide)) rfl rfl T.d_need_characters.g T.d_need_characters.F.kp T.d_need_characters.b (da_cons (de_op d2_add op_addR (de_op d2_add op_addR (de_callB cd_sumE (cr_sumE rfl) rfl T.b_sum (by decide +kernel) (da_cons (de_v 4 (pv 4)) da_nil)) (de_callB cd_len call_len rfl T.b_len (by decide +kernel) (da_cons (de_v 4 (pv 4)) da_nil))) (de_callTy cd_intS cr_intS rfl T.b_int (by decide +kernel) (da_cons (de_v 3 (pv 3)) da_nil))) da_nil)))
      (dss_one (ds_ret (de_callX tk fo_indent_of (ok_indent_of T) hA (hr.mono (by decide)) rfl rfl T.d_indent_of.g T.d_indent_of.F.kp T.d_indent_of.b (da_cons (de_v 4 (pv 4)) (da_cons (de_callTy cd_intS cr_intS rfl T.b_int (by decide +kernel) (da_cons (de_v 3 (pv 3)) da_nil)) da_nil)))))))))))) ?_
  refine ho_parse_indent fun d Qd Ed h q => ?_
  try dsimp only at *
  rw [st_parse_indent]
  cases d with
  | str z =>
    obtain ⟨h0, h1, h2⟩ := h z rfl
    rw [seq_mk]
    subst_eqs
    rw [seq_mk]
    subst_eqs
    refine ⟨⟨h0, h1⟩, ?_⟩
    cases e : ffQ (tl z) with
    | some i =>
      unfold pnA at q
      dsimp only at q
      rw [e] at q
      rw [atD]
      rw [seq_mk]
      subst_eqs
      exact q
    | none =>
      obtain ⟨rs, t, et⟩ := sh_of e
      obtain rfl : z = SX.S (shQ rs t) := by rw [← et, SX.S_tl]
      obtain ⟨h3, h4⟩ := h2 rs t et
      rw [pn_sh] at q
      rw [atD]
      rw [seq_mk]
      subst_eqs
      rw [seq_mk]
      subst_eqs
      rw [split_sh]
      have hpl : (Str.ofString "+").length ≠ 0 := by decide +kernel
      have hpt : (Str.ofString ".").length ≠ 0 := by decide +kernel
      refine ⟨hpl, by omega, rfl, ?_⟩
      rw [List.map_cons, List.map_cons, List.map_nil]
      dsimp only
      have hlen : (shQ rs t).length ≤ 100000 := by rw [← SX.S_len]; exact h0
      have hhd : (hdQ rs).length ≤ 100000 := by rw [shQ_hd, List.length_append] at hlen; omega
      have hA : ∀ c ∈ hdQ rs, c < 128 := fun c m => by
        unfold hdQ at m
        split at m
        · rw [List.mem_singleton.mp m]; decide
        · rcases joinL_mem m with k | ⟨p, mp, k⟩
          · rw [List.mem_singleton.mp k]; decide
          · obtain ⟨r, _, rfl⟩ := List.mem_map.mp mp
            exact numL_ok k
      refine seq_cut (fun sl' st' => sl' = [some (Sl.d (PyData.str (SX.S (shQ rs t)))), some (Sl.d PyData.none), some (Sl.d (.str (SX.S (hdQ rs)))), some (Sl.d (.str (SX.S (numL t)))), some (.d (.list (rs.map fun n => .int (n : Nat)))), none] ∧ st' = []) (fun R2 hR2 => ?_) ?_
      · nofun
        refine ⟨sh_str (strOk_asc hA), ?_⟩
        have e45 : Str.ofString "-" = SX.S [45] := by decide +kernel
        by_cases hr : rs = []
        · subst hr
          rw [if_pos (by rw [e45]; exact eqv_self_str)]
          exact hR2 _ _ ⟨rfl, rfl⟩
        · rw [if_neg (by
            rw [e45, eqv_str]
            simp only [decide_eq_true_eq]
            intro e
            have : hdQ rs = hdQ [] := S_inj e
            exact hr (hdQ_inj this)), split_hd hr]
          have hge := hdQ_ge (rs := rs)
          refine ⟨hpt, by rw [SX.S_len]; omega, ?_⟩
          refine lc_map (fun d => .int (NumText.digitsVal (tl (toZ d)) : Nat)) (by rw [List.length_map, List.length_map, List.length_map]; omega) (fun d m R hR => ?_) ?_
          · obtain ⟨z, mz, rfl⟩ := List.mem_map.mp m
            obtain ⟨l, ml, rfl⟩ := List.mem_map.mp mz
            obtain ⟨r, mr, rfl⟩ := List.mem_map.mp ml
            have h5 := h3 r mr
            subst_vars
            refine ⟨by rw [SX.S_len]; exact h5, _, int_numS h5, ?_⟩
            have ev : (NumText.digitsVal (tl (toZ (PyData.str (SX.S (numL r))))) : Nat) = r := by
              rw [show toZ (PyData.str (SX.S (numL r))) = SX.S (numL r) from rfl, show tl (SX.S (numL r)) = numL r from tl_S .., numL_val]
            rw [ev] at hR
            exact hR
          · have em : (((rs.map numL).map SX.S).map PyData.str).map (fun d => PyData.int (NumText.digitsVal (tl (toZ d)) : Nat)) = rs.map fun n => .int (n : Nat) := by
              rw [List.map_map, List.map_map, List.map_map]
              refine List.map_congr_left fun r _ => ?_
              show PyData.int (NumText.digitsVal (tl (SX.S (numL r))) : Nat) = _
              rw [show tl (SX.S (numL r)) = numL r from tl_S .., numL_val]
            rw [em]
            exact hR2 _ _ ⟨rfl, rfl⟩
      · rintro sl' st' ⟨rfl, rfl⟩
        have hge := hdQ_ge (rs := rs)
        rw [seq_mk]
        subst_eqs
        have e0 : (rs.map fun n : Nat => PyData.int (n : Nat)) = (rs.map fun n : Nat => (n : Int)).map .int := by rw [List.map_map]; rfl
        have e1 : szD (.list (rs.map fun n : Nat => PyData.int (n : Nat))) (t : Nat) = rs.sum + rs.length + t := by
          unfold szD lsD
          dsimp only
          rw [List.map_map, List.length_map, show (toN ∘ fun n : Nat => PyData.int (n : Nat)) = id from rfl, List.map_id]
          rfl
        have e2 : stD (.list (rs.map fun n : Nat => PyData.int (n : Nat))) (t : Nat) = .str (SX.S (indL rs t)) := by
          unfold stD lsD
          dsimp only
          rw [List.map_map, show (toN ∘ fun n : Nat => PyData.int (n : Nat)) = id from rfl, List.map_id]
          rfl
        refine ⟨rs.map fun n : Nat => (n : Int), by rw [e0]; exact asInts_map _, by rw [SX.S_len]; exact h4, (t : Nat), int_numS h4, ?_⟩
        rw [sum_cast, List.length_map]
        refine ⟨by omega, fun hle => ⟨by rw [SX.S_len]; exact h4, (t : Nat), int_numS h4, ?_⟩, fun hgt => ?_⟩
        · rw [e1, e2]
          rw [if_neg (by omega)] at q
          refine ⟨⟨⟨_, .inl rfl⟩, ?_, by show (List.map _ rs).length ≤ 1000; rw [List.length_map]; omega, by omega, by omega⟩, fun _ => q, fun h => absurd h (by omega)⟩
          show Ints Rn (rs.map fun n : Nat => PyData.int (n : Nat))
          intro d m
          obtain ⟨r, mr, rfl⟩ := List.mem_map.mp m
          have := mem_sum mr
          exact ⟨_, rfl, by omega, by omega⟩
        · rw [if_pos (by omega)] at q
          rw [show ((rs.sum : Nat) : Int) + (rs.length : Int) + (t : Int) = ((rs.sum + rs.length + t : Nat) : Int) by omega]
          exact q
  | _ =>
    rw [seq_mk]
    subst_eqs
    exact q
theorem ok__law_heard (T : Tx K mg f_need_characters f_number_state f__law_pen f__law_draw f__law_is_number f_indent_of f_next_state f__law_is_begun f__law_word f__law_bent f_first_fault f__law_due f__law_text f_parse_indent f__law_heard f_law fd_need_characters fd_number_state fd__law_pen fd__law_draw fd__law_is_number fd_indent_of fd_next_state fd__law_is_begun fd__law_word fd__law_bent fd_first_fault fd__law_due fd__law_text fd_parse_indent fd__law_heard fd_law) : FnD P w K mg base CX0 5 f__law_heard fd__law_heard ["_law_thing"] sp__law_heard := by
  refine FnD.of0 T.d__law_heard.F sc__law_heard 0 _ (fun cdv A outer s H E Z0 hA hr hz => (dss_cons (ds_set 1 sc__law_heard.nd de_non)
      (dss_cons (ds_try2 (f1 := "at") (f2 := "length") (i1 := 2) (i2 := 2) (j := 1) T.xr T.ek L2.takes0 sc__law_heard.nd List.mem_cons_self (List.mem_cons_of_mem _ List.mem_cons_self) (List.mem_cons_of_mem _ List.mem_cons_self) List.mem_cons_self List.mem_cons_self (fun W pn xe tk => (dss_one (ds_ret (de_callX tk fo_parse_indent (ok_parse_indent T) hA (hr.mono (by decide)) rfl rfl T.d_parse_indent.g T.d_parse_indent.F.kp T.d_parse_indent.b (da_cons (de_v 0 (pv 0)) da_nil))))) (fun a oe pn te h => pss_one (ps_set (i := 1) sc__law_heard.nd rfl (Or.inl rfl) (pe_lst (pa_cons h (pa_cons (pv 2) pa_nil))))) (fun a oe pn te h => pss_one (ps_ret h)) (fun a oe pn => pv 2) (fun a oe pn => pv 2))
      (dss_cons (ds_if (dt_tru (de_isET T.xr (de_ixE (de_v 1 (pv 1)) de_int) (.cons (List.mem_cons_of_mem _ (List.mem_cons_of_mem _ List.mem_cons_self)) (.cons (List.mem_cons_of_mem _ (List.mem_cons_of_mem _ (List.mem_cons_of_mem _ List.mem_cons_self))) (.cons (List.mem_cons_of_mem _ (List.mem_cons_of_mem _ (List.mem_cons_of_mem _ (List.mem_cons_of_mem _ List.mem_cons_self)))) (.cons (List.mem_cons_of_mem _ (List.mem_cons_of_mem _ (List.mem_cons_of_mem _ (List.mem_cons_of_mem _ (List.mem_cons_of_mem _ List.mem_cons_self))))) (.cons (List.mem_cons_of_mem _ (List.mem_cons_of_mem _ (List.mem_cons_of_mem _ (List.mem_cons_of_mem _ (List.mem_cons_of_mem _ (List.mem_cons_of_mem _ List.mem_cons_self)))))) .nil))))) rfl T.b_isinstance (by decide +kernel))) (dss_one (ds_ret de_non)) dss_nil)
      (dss_one (ds_ret (de_if (DWs.dt (dw_and (dt_tru (de_isE1 T.xr (de_ixE (de_v 1 (pv 1)) de_int) (List.mem_cons_of_mem _ (List.mem_cons_of_mem _ (List.mem_cons_of_mem _ (List.mem_cons_of_mem _ (List.mem_cons_of_mem _ (List.mem_cons_of_mem _ (List.mem_cons_of_mem _ List.mem_cons_self))))))) rfl T.b_isinstance (by decide +kernel))) (dw_and1 (dt_tru (de_isE1 T.xr (de_ixE (de_v 1 (pv 1)) de_int) (List.mem_cons_of_mem _ (List.mem_cons_of_mem _ (List.mem_cons_of_mem _ (List.mem_cons_of_mem _ (List.mem_cons_of_mem _ (List.mem_cons_of_mem _ (List.mem_cons_of_mem _ (List.mem_cons_of_mem _ List.mem_cons_self)))))))) rfl T.b_isinstance (by decide +kernel)))))) (de_slice (de_v 1 (pv 1)) dpo_none (dpo_some de_int)) de_non))))))) ?_
  refine ho__law_heard fun d Qd h q => ?_
  try dsimp only at *
  rw [st__law_heard]
  rw [seq_mk]
  subst_eqs
  rw [seq_mk]
  subst_eqs
  refine ⟨pn_pre h, ?_⟩
  rcases pn_cases d with ⟨x, e⟩ | ⟨i, e⟩ | ⟨i, e⟩
  · rw [e]
    rw [he_ok e] at q
    exact q
  · rw [e]
    rw [he_at e] at q
    dsimp only
    refine ⟨by decide, ?_⟩
    rw [if_pos (by decide +kernel)]
    refine ⟨rfl, i, rfl, ?_⟩
    rw [seq_mk]
    subst_eqs
    refine ⟨by decide, ?_⟩
    rw [if_neg (by decide +kernel)]
    refine ⟨by decide, ?_⟩
    rw [if_pos (by decide +kernel)]
    refine ⟨by decide, ?_⟩
    rw [if_pos (by decide +kernel), cut_take (by decide)]
    exact q
  · rw [e]
    rw [he_len e] at q
    dsimp only
    refine ⟨by decide, ?_⟩
    rw [if_neg (by decide +kernel), if_pos (by decide +kernel)]
    exact ⟨rfl, i, rfl, q⟩
theorem ok_law (T : Tx K mg f_need_characters f_number_state f__law_pen f__law_draw f__law_is_number f_indent_of f_next_state f__law_is_begun f__law_word f__law_bent f_first_fault f__law_due f__law_text f_parse_indent f__law_heard f_law fd_need_characters fd_number_state fd__law_pen fd__law_draw fd__law_is_number fd_indent_of fd_next_state fd__law_is_begun fd__law_word fd__law_bent fd_first_fault fd__law_due fd__law_text fd_parse_indent fd__law_heard fd_law) : FnD P w K mg base CX0 6 f_law fd_law ["_law_script"] sp_law := by
  refine FnD.of0 T.d_law.F sc_law 0 _ (fun cdv A outer s H E Z0 hA hr hz => (dss_cons (ds_set 1 sc_law.nd (de_call (ok__law_pen T) hA (hr.mono (by decide)) (by first | exact lD fun _ => rfl | exact lP fun _ => rfl | exact l1) rfl T.d__law_pen.g T.d__law_pen.F.kp T.d__law_pen.b (da_cons (de_v 0 (pv 0)) da_nil)))
      (dss_cons (ds_for PassesOwn.never rfl (di_rng1 rfl T.b_range (da_cons de_int da_nil)) (dg_name 2 sc_law.nd) (dss_cons (ds_set 3 sc_law.nd (de_callQ fo__law_text (ok__law_text T) hA (hr.mono (by decide)) rfl rfl T.d__law_text.g T.d__law_text.F.kp T.d__law_text.b (da_cons (de_v 1 (pv 1)) da_nil)))
      (dss_cons (ds_set 4 sc_law.nd (de_callQ fo__law_bent (ok__law_bent T) hA (hr.mono (by decide)) rfl rfl T.d__law_bent.g T.d__law_bent.F.kp T.d__law_bent.b (da_cons (de_v 1 (pv 1)) (da_cons (de_v 3 (pv 3)) da_nil))))
      (dss_cons (ds_set 5 sc_law.nd (de_if (dt_cmp d2_eq (op_eqD hr.units) (de_callQ fo__law_draw (ok__law_draw T) hA (hr.mono (by decide)) rfl rfl T.d__law_draw.g T.d__law_draw.F.kp T.d__law_draw.b (da_cons (de_v 1 (pv 1)) (da_cons de_int da_nil))) de_int (nomark _)) (de_callQ fo__law_bent (ok__law_bent T) hA (hr.mono (by decide)) rfl rfl T.d__law_bent.g T.d__law_bent.F.kp T.d__law_bent.b (da_cons (de_v 1 (pv 1)) (da_cons (de_v 4 (pv 4)) da_nil))) (de_v 4 (pv 4))))
      (dss_cons (ds_for PassesOwn.never rfl (di_e (de_tup (da_cons (de_slice (de_v 5 (pv 5)) dpo_none (dpo_some de_int)) (da_cons (de_v 3 (pv 3)) da_nil)))) (dg_name 6 sc_law.nd) (dss_one (ds_if (dt_cmp d2_ne (op_neD hr.units) (de_callB cd_repZ (call_reprZ hA (hr.units)) rfl T.b_repr (by decide +kernel) (da_cons (de_callF fo__law_heard (ok__law_heard T) hA (hr.mono (by decide)) rfl rfl T.d__law_heard.g T.d__law_heard.F.kp T.d__law_heard.b (da_cons (de_v 6 (pv 6)) da_nil)) da_nil)) (de_callB cd_repZ (call_reprZ hA (hr.units)) rfl T.b_repr (by decide +kernel) (da_cons (de_callF fo__law_due (ok__law_due T) hA (hr.mono (by decide)) rfl rfl T.d__law_due.g T.d__law_due.F.kp T.d__law_due.b (da_cons (de_v 6 (pv 6)) da_nil)) da_nil)) (nomark _)) (dss_one (ds_ret de_bl)) dss_nil)))
      (dss_cons (ds_set 7 sc_law.nd (de_ixE (de_lst (da_cons de_non (da_cons de_int (da_cons de_bl (da_cons (de_tup da_nil) (da_cons (de_lst (da_cons (de_v 3 (pv 3)) da_nil)) (da_cons (de_tup (da_cons (de_v 3 (pv 3)) da_nil)) (da_cons de_dnil (da_cons de_int da_nil))))))))) (de_callQ fo__law_draw (ok__law_draw T) hA (hr.mono (by decide)) rfl rfl T.d__law_draw.g T.d__law_draw.F.kp T.d__law_draw.b (da_cons (de_v 1 (pv 1)) (da_cons de_int da_nil)))))
      (dss_one (ds_if (dt_cmp d2_ne (op_neD hr.units) (de_callB cd_repZ (call_reprZ hA (hr.units)) rfl T.b_repr (by decide +kernel) (da_cons (de_callF fo__law_heard (ok__law_heard T) hA (hr.mono (by decide)) rfl rfl T.d__law_heard.g T.d__law_heard.F.kp T.d__law_heard.b (da_cons (de_v 7 (pv 7)) da_nil)) da_nil)) (de_callB cd_repZ (call_reprZ hA (hr.units)) rfl T.b_repr (by decide +kernel) (da_cons (de_lst (da_cons de_int da_nil)) da_nil)) (nomark _)) (dss_one (ds_ret de_bl)) dss_nil))))))))
      (dss_one (ds_ret de_bl))))) ?_
  refine e1 fun a cs Qd Ed => ?_
  rintro ⟨ns, rfl, rfl, q⟩
  refine ⟨rfl, ?_⟩
  rw [st_law]
  simp -implicitDefEqProofs only [↓Pz.wC_ap, ↓Pz.wVar_ap, ↓Pz.wOp_ap, ↓Pz.wTest_ap, ↓Pz.wNil_ap, ↓Pz.wCons_ap, ↓Pz.wCall_ap, ↓Pz.wCallW_ap, ↓Pz.wApp_ap, ↓Pz.wLst_ap, ↓Pz.wTup_ap, ↓Pz.wLstO_ap, ↓Pz.wNoPart_ap, ↓Pz.wPart_ap, ↓Pz.wSl_ap, ↓Pz.wAnd_ap, ↓Pz.wOr_ap, ↓Pz.wNot_ap, ↓Pz.wAndV_ap, ↓Pz.wOrV_ap, ↓Pz.wNotV_ap, ↓Pz.wIfE_ap, ↓Pz.wTru_ap, ↓Pz.wChain_ap, ↓Pz.wNeg_ap, ↓Pz.wAug_ap, ↓Pz.gNm_ap, ↓Pz.gNl_ap, ↓Pz.gCn_ap, ↓Pz.gTp_ap, ↓Pz.wAsg_ap, ↓Pz.wItE_ap, ↓Pz.wRng1_ap, ↓Pz.wRng2_ap, ↓Pz.wYes_ap, ↓Pz.wLc_ap, ↓Pz.wLcO_ap, ↓Pz.wBM_ap, ↓Pz.wSetIx_ap, ↓Pz.wFrz_ap, ↓Pz.wCallF_ap, ↓Pz.wCallQ_ap, ↓Pz.wCallWF_ap, ↓Pz.wRev_ap, ↓Pz.wRg1_ap, ↓Pz.wRg2_ap, ↓Pz.wListRg_ap, ↓Pz.wRng3_ap, ↓Pz.wEnum_ap, ↓Pz.wZip_ap, ↓Pz.wCallQO_ap, ↓Pz.wDPut_ap, ↓Pz.wPNil_ap, ↓Pz.wPCons_ap, ↓Pz.wDisp_ap, ↓Pz.wDNew_ap, ↓Pz.wDNil_ap, ↓Pz.wEnumX_ap, ↓Pz.wCallE_ap, ↓Pz.wSlO_ap, ↓Pz.wEnumY_ap, ↓Pz.wDGet2_ap, ↓Pz.wMaxDf_ap, ↓Pz.wCallFO_ap, ↓Pz.wRevY_ap, ↓Pz.wFrzX_ap, ↓Pz.wSwp_ap, ↓Pz.wCallX_ap, ↓Pz.wCallXO_ap, ↓Pz.wCallWX_ap, ↓Pz.wRaise1_ap, ↓Pz.wRaise0_ap, ↓Pz.wTry_ap, ↓Pz.wIsE_ap, ↓Pz.wXf_ap, ↓Pz.wDispD_ap, ↓Pz.wSortLen_ap, ↓Pz.wGGet_ap, ↓Pz.wMinDf_ap, ↓Pz.wPar_ap, ↓Pz.wLam_ap, ↓Pz.wAct_ap, ↓Pz.wRep_ap, ↓Pz.wZipM_ap, ↓Pz.wZipN_ap, ↓Pz.wLenSet_ap, ↓Pz.wBor_ap, ↓Pz.gTpL_ap, ↓Pz.wTupRg_ap, ↓Pz.wRevS_ap, ↓Pz.wFmt_ap, ↓Pz.wJoined_ap, ↓Pz.wAsgS_ap, ↓Pz.wPar3_ap, ↓Pz.wDc_ap, ↓Pz.wDcT_ap, ↓Pz.wDGet3_ap, ↓Pz.wListV_ap, ↓Pz.wSumV_ap, ↓Pz.wDIn_ap, ↓Pz.wTGet2_ap, ↓Pz.wTPut_ap, ↓Pz.wDAug_ap, ↓Pz.wFrzL_ap, ↓Pz.wItV_ap, ↓Pz.wItI_ap, ↓Pz.wItK_ap, ↓Pz.wDisp1_ap, ↓Pz.wBorD_ap, ↓Pz.wDNewT_ap, ↓Pz.wCallFD_ap, ↓Pz.wDNew_ap, ↓Pz.wItC_ap, ↓Pz.wCallXE_ap, ↓Pz.wTSetd_ap, ↓Pz.wListRgO_ap, ↓Pz.wTryC_ap, ↓Pz.wTry2_ap, ↓Pz.wRepl_ap, ↓Pz.wMinLen_ap, ↓Pz.wDNewN_ap, ↓Pz.wNSetd_ap, ↓Pz.wFrzN_ap, Pz.setAll, ↓Pz.wClose_ap, ↓Pz.wSetIxO_ap, ↓Pz.oIxS_ap, ↓Pz.wRaise3_ap, ↓Pz.oMulT_ap, Pz.dkX, Pz.unKD_kdD, Option.isSome_some, ↓Pz.wOrX_apS, ↓Pz.wAndX_apS, ↓Pz.orP_str, Pz.orP_some, Pz.orP_none, ↓oTGet, ↓oLtS, ↓oLtT, ↓fListKy, ↓fSortKy, ↓fLenD_o, ↓Pz.aFD, Pz.unD_K, Pz.unD_T, Pz.kyS_t, Pz.keysL_nil, Pz.keysL_ci, Pz.keysL_cs, ↓Pz.dtAt_o, Pz.dtAt_L, ↓Pz.dkAny_o, Pz.dkAny_D, Pz.dkAny_L, ↓Pz.dvAt_o, Pz.dvAt_D, Pz.dvAt_L, Pz.dvAt_T, ↓Pz.dkyS_o, Pz.dkyS_D, Pz.dkyS_L, Pz.dkyS_T, ↓Pz.dinS_o, Pz.dinS_D, Pz.dinS_L, Pz.dinS_T, Pz.lkP_K, Pz.lkP_T, Pz.lkV_K, Pz.lkV_T, Pz.lkV_N, ↓Pz.dnAt_o, Pz.oK_n, Pz.oK_i, ↓ret1_dT, cl_dt, Pz.lkOf_K, Pz.lkOf_T, Pz.xor_f, Pz.xor_t, Pz.hasD_int, Option.bind, Option.bind_some, List.set, ↓seq_mk, ↓wTrim_mk, trimS, List.take_succ_cons, List.take_zero, Nat.reduceLT, ↓nx_mk, ↓set_mk, ↓if_mk, nthS, ↓oEq, ↓oNe, vw, ↓oAdd, ↓oSub, ↓oIadd, ↓oDGet, keyOf_str, keyOf_int, keyS_str, keyS_int, ↓dkAt_o, valE_cells, valE_at, valE_left, putE_at, putE_left, mergeE, mergeD1, kvD1, keyD_s, keyD_i, ret1_dE, cl_dk, ↓fIsi, ↓fDivmod, ↓fStr, Pz.okT_int, Pz.is_int_none, Pz.is_int_bool, Pz.is_int_int, Pz.is_int_str, Pz.is_int_list, Pz.is_int_tuple, Pz.is_int_dict, Pz.okT_bool, Pz.is_bool_none, Pz.is_bool_bool, Pz.is_bool_int, Pz.is_bool_str, Pz.is_bool_list, Pz.is_bool_tuple, Pz.is_bool_dict, Pz.okT_str, Pz.is_str_none, Pz.is_str_bool, Pz.is_str_int, Pz.is_str_str, Pz.is_str_list, Pz.is_str_tuple, Pz.is_str_dict, Pz.okT_tuple, Pz.is_tuple_none, Pz.is_tuple_bool, Pz.is_tuple_int, Pz.is_tuple_str, Pz.is_tuple_list, Pz.is_tuple_tuple, Pz.is_tuple_dict, Pz.okT_list, Pz.is_list_none, Pz.is_list_bool, Pz.is_list_int, Pz.is_list_str, Pz.is_list_list, Pz.is_list_tuple, Pz.is_list_dict, Pz.is_dict_none, Pz.is_dict_bool, Pz.is_dict_int, Pz.is_dict_str, Pz.is_dict_list, Pz.is_dict_tuple, Pz.is_dict_dict, ↓oFdiv, ↓oMod, ↓oMul, ↓oPow, ↓oBool, ↓oII, ↓oIsN, ↓oNotN, ↓oIn, ↓oInX, ↓oInQ, ↓oInT, ↓oIsB, ↓oIsBN, ↓oNotB, noneS, ↓ret_mk, ↓retN_mk, ↓bk_mk, ↓ct_mk, ↓expr_mk, ↓for_mk, truD, ↓oIxE, ↓mPopAt, ↓mIndex, ↓mInsert, ↓fIntS, ↓fStrN, ↓Pz.wJs_cons, ↓Pz.wJs_nil, at0, at1, at2, at3, ix10, ix20, ix21, ix30, ix31, ix32, Pz.len1, Pz.len2, Pz.len3, List.length_nil, List.length_cons, sh_int, sh_bl, sh_non, Int.reduceEq, reduceCtorEq, decide_true, decide_false, sh_nil, eqv_nn, eqv_nilL, List.isEmpty_map, sh_lit, List.flatten_replicate_singleton, List.length_replicate, eqv_int, Nat.zero_le, szL, Nat.reduceLeDiff, Nat.reduceAdd, ↓ret1_d, ↓ret1_o0, ↓ret1_o1, ↓ret1_o2, ↓ret0_o0, ↓ret_d, cl_lst, true_and, and_true, decide_eq_true_eq, ↓oSl, ↓oSlO, ↓fLen, ↓fAbs, ↓fInt, ↓fMaxE, ↓fMinE, ↓fSumE, ↓Pz.fSumL, ↓fAll, ↓fAny, ↓fList, ↓fListO, ↓fListE, ↓fListEO, ↓fTuple, ↓fSortedE, ↓fSortedS, ↓fSortedG, ↓Pz.fSortedGO, ↓fRep, ↓fRepX, ↓fRepZ, ↓fRepW, ↓fBool, vwJ_l, vwJ_t, vwS_l, vwS_t, vwB, dsOf, tyD, ↓mAppend, ↓mExtend, ↓mPop, ↓mReverse, ↓mSplit, ↓mSplitO, ↓mStrip, ↓mLstrip, ↓mRstrip, ↓mStr2, ↓mPart, ↓mJoinE, frzS, frzX, ↓excOf_o, Pz.excOf_d, ↓oDGetX, List.map_cons, List.map_nil, List.getElem?_cons_zero, List.getElem?_cons_succ, List.cons_append, List.nil_append, Bool.false_eq_true, Bool.true_eq_false, ↓reduceIte, p10_3, p10_6, p10_7, p10_9, p10_12, Option.map, ↓aQ, ↓aQO, ↓aFO, borS, atomD, ↓aXO, ↓oAddO, ↓oMulO, Option.some.injEq, exists_eq_left', exists_and_left, datO, datQ_d, ↓mCount, ↓mCountS, Bool.not_true, Bool.not_false, ↓F_need_characters, ↓F_indent_of, ↓F_number_state, ↓F_next_state, ↓F_first_fault, ↓F_parse_indent, ↓F__law_draw, ↓F__law_is_number, ↓F__law_is_begun, ↓F__law_due, ↓F__law_word, ↓F__law_text, ↓F__law_bent, ↓F__law_heard]
  refine pen_call fun c0 p0 => ?_
  nofun
  repeat with_reducible refine And.intro (by first | omega | decide | exact cpow (by omega) (by omega) (by omega) (by omega) | exact .inl (small (by omega) (by omega)) | exact .inr (small (by omega) (by omega)) | exact cdw (by omega) (by omega) | (simp only [Pz.len_mul, len_sp1, len_tab1, len_em, Pz.len_add, List.length_cons, List.length_nil, List.length_map, List.length_append] at *; omega) | (simp only [Pz.len_mul, len_sp1, len_tab1, len_st2, len_em, Pz.len_add]; omega)) ?_
  refine forL_ix (fun (ds : List PyData) (sl : Sls) (st : Sto) => ∃ (k : Nat) (c : Ct) (s_2 s_3 s_4 s_5 s_6 s_7 : Option Sl), sl = [some (.f ns), some (.o 0), s_2, s_3, s_4, s_5, s_6, s_7] ∧ st = [c] ∧ Pen k c ∧ k + 20 * ds.length ≤ 10000) ?_ ?_ _ _ _ ⟨_, c0, _, _, _, _, _, _, rfl, rfl, p0, by rw [len_rng]; decide⟩
  · rintro sl st ⟨k, c, s_2, s_3, s_4, s_5, s_6, s_7, rfl, rfl, pk, hk⟩
    nofun
    exact q
  · rintro R B d ds sl st ih ⟨k, c, s_2, s_3, s_4, s_5, s_6, s_7, rfl, rfl, pk, hk⟩
    rw [List.length_cons] at hk
    nofun
    refine ⟨_, pk, by omega, fun t ht hto c1 p1 => ?_⟩
    refine ⟨_, p1, by omega, ⟨by omega, hto⟩, fun y hy hyo c2 p2 => ?_⟩
    refine ⟨_, p2, by omega, ⟨by omega, by omega⟩, fun r1 a1 b1 c3 p3 => ?_⟩
    by_cases h0 : r1 = 0
    · rw [if_pos h0]
      refine ⟨_, p3, by omega, ⟨by omega, hyo⟩, fun u hu huo c4 p4 => ?_⟩
      refine ⟨by omega, ?_⟩
      have hcl : (cutS u none (some 200)).length ≤ 200 := by
        have := (cutS_lens u (a := 200) (by omega)).1
        omega
      have hco : PyData.strOk (cutS u none (some 200)) = true := strOk_cutZ huo
      refine forL_ix (fun (ds : List PyData) (sl : Sls) (st : Sto) => ∃ (x : Unit) (s_2 s_4 s_5 s_6 s_7 : Option Sl), sl = [some (.f ns), some (.o 0), s_2, some (.d (.str t)), s_4, s_5, s_6, s_7] ∧ st = [c4] ∧ ∀ e ∈ ds, ∃ z : Str, e = .str z ∧ z.length ≤ 200 ∧ PyData.strOk z = true) ?_ ?_ _ _ _ ⟨(), _, _, _, _, _, rfl, rfl, fun e m => by
        simp only [List.mem_cons, List.not_mem_nil, or_false] at m
        rcases m with rfl | rfl
        · exact ⟨_, rfl, hcl, hco⟩
        · exact ⟨_, rfl, ht, hto⟩⟩
      · rintro sl st ⟨x, s_2, s_4, s_5, s_6, s_7, rfl, rfl, hx⟩
        nofun
        refine ⟨_, p4, by omega, ⟨by omega, by omega⟩, fun r5 a5 b5 c5 p5 => ?_⟩
        refine pickM (P := fun d => (∀ z, d = .str z → False) ∧ heQ d = .list [.int 0]) (fun d m => ?_) a5 (by simpa using b5) fun d hd => ?_
        · simp only [List.mem_cons, List.not_mem_nil, or_false] at m
          rcases m with rfl | rfl | rfl | rfl | rfl | rfl | rfl | rfl <;> exact ⟨fun z e => (by cases e), rfl⟩
        · obtain ⟨hd1, hd2⟩ := hd
          obtain ⟨g1, g2⟩ := he_rep (d := d) fun z e => (hd1 z e).elim
          rw [hd2] at g1 g2 ⊢
          refine ⟨fun z e => (hd1 z e).elim, g1, g1, g2, g2, ?_⟩
          rw [if_neg (by rw [eqv_self_str]; decide)]
          exact ih _ _ ⟨_, c5, _, _, _, _, _, _, rfl, rfl, p5, by omega⟩
      · rintro R2 B2 e es sl st ih2 ⟨x, s_2, s_4, s_5, s_6, s_7, rfl, rfl, hx⟩
        obtain ⟨z, rfl, hz, hzo⟩ := hx e List.mem_cons_self
        nofun
        obtain ⟨g1, g2⟩ := he_rep (d := .str z) fun z' e => by cases e; exact ⟨hz, hzo⟩
        have e : duQ z = heQ (.str z) := rfl
        rw [e]
        refine ⟨fun z' e => by cases e; exact ⟨by omega, hzo⟩, g1, ⟨by omega, hzo⟩, g1, g2, g2, ?_⟩
        rw [if_neg (by rw [eqv_self_str]; decide)]
        exact ih2 _ _ ⟨(), _, _, _, _, _, rfl, rfl, fun e m => hx e (List.mem_cons_of_mem _ m)⟩
    · rw [if_neg h0]
      refine ⟨by omega, ?_⟩
      have hcl : (cutS y none (some 200)).length ≤ 200 := by
        have := (cutS_lens y (a := 200) (by omega)).1
        omega
      have hco : PyData.strOk (cutS y none (some 200)) = true := strOk_cutZ hyo
      refine forL_ix (fun (ds : List PyData) (sl : Sls) (st : Sto) => ∃ (x : Unit) (s_2 s_4 s_5 s_6 s_7 : Option Sl), sl = [some (.f ns), some (.o 0), s_2, some (.d (.str t)), s_4, s_5, s_6, s_7] ∧ st = [c3] ∧ ∀ e ∈ ds, ∃ z : Str, e = .str z ∧ z.length ≤ 200 ∧ PyData.strOk z = true) ?_ ?_ _ _ _ ⟨(), _, _, _, _, _, rfl, rfl, fun e m => by
        simp only [List.mem_cons, List.not_mem_nil, or_false] at m
        rcases m with rfl | rfl
        · exact ⟨_, rfl, hcl, hco⟩
        · exact ⟨_, rfl, ht, hto⟩⟩
      · rintro sl st ⟨x, s_2, s_4, s_5, s_6, s_7, rfl, rfl, hx⟩
        nofun
        refine ⟨_, p3, by omega, ⟨by omega, by omega⟩, fun r5 a5 b5 c5 p5 => ?_⟩
        refine pickM (P := fun d => (∀ z, d = .str z → False) ∧ heQ d = .list [.int 0]) (fun d m => ?_) a5 (by simpa using b5) fun d hd => ?_
        · simp only [List.mem_cons, List.not_mem_nil, or_false] at m
          rcases m with rfl | rfl | rfl | rfl | rfl | rfl | rfl | rfl <;> exact ⟨fun z e => (by cases e), rfl⟩
        · obtain ⟨hd1, hd2⟩ := hd
          obtain ⟨g1, g2⟩ := he_rep (d := d) fun z e => (hd1 z e).elim
          rw [hd2] at g1 g2 ⊢
          refine ⟨fun z e => (hd1 z e).elim, g1, g1, g2, g2, ?_⟩
          rw [if_neg (by rw [eqv_self_str]; decide)]
          exact ih _ _ ⟨_, c5, _, _, _, _, _, _, rfl, rfl, p5, by omega⟩
      · rintro R2 B2 e es sl st ih2 ⟨x, s_2, s_4, s_5, s_6, s_7, rfl, rfl, hx⟩
        obtain ⟨z, rfl, hz, hzo⟩ := hx e List.mem_cons_self
        nofun
        obtain ⟨g1, g2⟩ := he_rep (d := .str z) fun z' e => by cases e; exact ⟨hz, hzo⟩
        have e : duQ z = heQ (.str z) := rfl
        rw [e]
        refine ⟨fun z' e => by cases e; exact ⟨by omega, hzo⟩, g1, ⟨by omega, hzo⟩, g1, g2, g2, ?_⟩
        rw [if_neg (by rw [eqv_self_str]; decide)]
        exact ih2 _ _ ⟨(), _, _, _, _, _, rfl, rfl, fun e m => hx e (List.mem_cons_of_mem _ m)⟩
theorem all_mk {l : PySem.W.OpenLaw} {w : World} {K : Frag} {h : Heap} {mg : Str → Option Value} {fa f_need_characters f_number_state f__law_pen f__law_draw f__law_is_number f_indent_of f_next_state f__law_is_begun f__law_word f__law_bent f_first_fault f__law_due f__law_text f_parse_indent f__law_heard f_law : Addr} (X : K.In h) (G : h.Ns mainGlobals mg) (hfa : mg "law" = some (.ref fa))
    {od_need_characters an_need_characters : Option Addr} {sl_need_characters : Array (Option Value)} {oc_need_characters kV_need_characters dc_need_characters pm_need_characters cd_need_characters ct_need_characters : Value}
    {od_number_state an_number_state : Option Addr} {sl_number_state : Array (Option Value)} {oc_number_state kV_number_state dc_number_state pm_number_state cd_number_state ct_number_state : Value}
    {od__law_pen an__law_pen : Option Addr} {sl__law_pen : Array (Option Value)} {oc__law_pen kV__law_pen dc__law_pen pm__law_pen cd__law_pen ct__law_pen : Value}
    {od__law_draw an__law_draw : Option Addr} {sl__law_draw : Array (Option Value)} {oc__law_draw kV__law_draw dc__law_draw pm__law_draw cd__law_draw ct__law_draw : Value}
    {od__law_is_number an__law_is_number : Option Addr} {sl__law_is_number : Array (Option Value)} {oc__law_is_number kV__law_is_number dc__law_is_number pm__law_is_number cd__law_is_number ct__law_is_number : Value}
    {od_indent_of an_indent_of : Option Addr} {sl_indent_of : Array (Option Value)} {oc_indent_of kV_indent_of dc_indent_of pm_indent_of cd_indent_of ct_indent_of : Value}
    {od_next_state an_next_state : Option Addr} {sl_next_state : Array (Option Value)} {oc_next_state kV_next_state dc_next_state pm_next_state cd_next_state ct_next_state : Value}
    {od__law_is_begun an__law_is_begun : Option Addr} {sl__law_is_begun : Array (Option Value)} {oc__law_is_begun kV__law_is_begun dc__law_is_begun pm__law_is_begun cd__law_is_begun ct__law_is_begun : Value}
    {od__law_word an__law_word : Option Addr} {sl__law_word : Array (Option Value)} {oc__law_word kV__law_word dc__law_word pm__law_word cd__law_word ct__law_word : Value}
    {od__law_bent an__law_bent : Option Addr} {sl__law_bent : Array (Option Value)} {oc__law_bent kV__law_bent dc__law_bent pm__law_bent cd__law_bent ct__law_bent : Value}
    {od_first_fault an_first_fault : Option Addr} {sl_first_fault : Array (Option Value)} {oc_first_fault kV_first_fault dc_first_fault pm_first_fault cd_first_fault ct_first_fault : Value}
    {od__law_due an__law_due : Option Addr} {sl__law_due : Array (Option Value)} {oc__law_due kV__law_due dc__law_due pm__law_due cd__law_due ct__law_due : Value}
    {od__law_text an__law_text : Option Addr} {sl__law_text : Array (Option Value)} {oc__law_text kV__law_text dc__law_text pm__law_text cd__law_text ct__law_text : Value}
    {od_parse_indent an_parse_indent : Option Addr} {sl_parse_indent : Array (Option Value)} {oc_parse_indent kV_parse_indent dc_parse_indent pm_parse_indent cd_parse_indent ct_parse_indent : Value}
    {od__law_heard an__law_heard : Option Addr} {sl__law_heard : Array (Option Value)} {oc__law_heard kV__law_heard dc__law_heard pm__law_heard cd__law_heard ct__law_heard : Value}
    {od_law an_law : Option Addr} {sl_law : Array (Option Value)} {oc_law kV_law dc_law pm_law cd_law ct_law : Value}
    (a_need_characters : PySem.W.nsIn K mainGlobals "need_characters" = some (some (.ref f_need_characters))) (l_need_characters : K.lookup f_need_characters = some ⟨oc_need_characters, od_need_characters, .func (PySem.W.fnOf "need_characters" "need_characters" (defArgs s_need_characters) (defBody s_need_characters) (defScope s_need_characters) .none kV_need_characters dc_need_characters pm_need_characters an_need_characters cd_need_characters ct_need_characters), sl_need_characters⟩) (c_need_characters : PySem.W.codeIn K cd_need_characters "need_characters" = true) (k_need_characters : PySem.W.keepIn K (.ref f_need_characters) = true)
    (a_number_state : PySem.W.nsIn K mainGlobals "number_state" = some (some (.ref f_number_state))) (l_number_state : K.lookup f_number_state = some ⟨oc_number_state, od_number_state, .func (PySem.W.fnOf "number_state" "number_state" (defArgs s_number_state) (defBody s_number_state) (defScope s_number_state) .none kV_number_state dc_number_state pm_number_state an_number_state cd_number_state ct_number_state), sl_number_state⟩) (c_number_state : PySem.W.codeIn K cd_number_state "number_state" = true) (k_number_state : PySem.W.keepIn K (.ref f_number_state) = true)
    (a__law_pen : PySem.W.nsIn K mainGlobals "_law_pen" = some (some (.ref f__law_pen))) (l__law_pen : K.lookup f__law_pen = some ⟨oc__law_pen, od__law_pen, .func (PySem.W.fnOf "_law_pen" "_law_pen" (defArgs s__law_pen) (defBody s__law_pen) (defScope s__law_pen) .none kV__law_pen dc__law_pen pm__law_pen an__law_pen cd__law_pen ct__law_pen), sl__law_pen⟩) (c__law_pen : PySem.W.codeIn K cd__law_pen "_law_pen" = true) (k__law_pen : PySem.W.keepIn K (.ref f__law_pen) = true)
    (a__law_draw : PySem.W.nsIn K mainGlobals "_law_draw" = some (some (.ref f__law_draw))) (l__law_draw : K.lookup f__law_draw = some ⟨oc__law_draw, od__law_draw, .func (PySem.W.fnOf "_law_draw" "_law_draw" (defArgs s__law_draw) (defBody s__law_draw) (defScope s__law_draw) .none kV__law_draw dc__law_draw pm__law_draw an__law_draw cd__law_draw ct__law_draw), sl__law_draw⟩) (c__law_draw : PySem.W.codeIn K cd__law_draw "_law_draw" = true) (k__law_draw : PySem.W.keepIn K (.ref f__law_draw) = true)
    (a__law_is_number : PySem.W.nsIn K mainGlobals "_law_is_number" = some (some (.ref f__law_is_number))) (l__law_is_number : K.lookup f__law_is_number = some ⟨oc__law_is_number, od__law_is_number, .func (PySem.W.fnOf "_law_is_number" "_law_is_number" (defArgs s__law_is_number) (defBody s__law_is_number) (defScope s__law_is_number) .none kV__law_is_number dc__law_is_number pm__law_is_number an__law_is_number cd__law_is_number ct__law_is_number), sl__law_is_number⟩) (c__law_is_number : PySem.W.codeIn K cd__law_is_number "_law_is_number" = true) (k__law_is_number : PySem.W.keepIn K (.ref f__law_is_number) = true)
    (a_indent_of : PySem.W.nsIn K mainGlobals "indent_of" = some (some (.ref f_indent_of))) (l_indent_of : K.lookup f_indent_of = some ⟨oc_indent_of, od_indent_of, .func (PySem.W.fnOf "indent_of" "indent_of" (defArgs s_indent_of) (defBody s_indent_of) (defScope s_indent_of) .none kV_indent_of dc_indent_of pm_indent_of an_indent_of cd_indent_of ct_indent_of), sl_indent_of⟩) (c_indent_of : PySem.W.codeIn K cd_indent_of "indent_of" = true) (k_indent_of : PySem.W.keepIn K (.ref f_indent_of) = true)
    (a_next_state : PySem.W.nsIn K mainGlobals "next_state" = some (some (.ref f_next_state))) (l_next_state : K.lookup f_next_state = some ⟨oc_next_state, od_next_state, .func (PySem.W.fnOf "next_state" "next_state" (defArgs s_next_state) (defBody s_next_state) (defScope s_next_state) .none kV_next_state dc_next_state pm_next_state an_next_state cd_next_state ct_next_state), sl_next_state⟩) (c_next_state : PySem.W.codeIn K cd_next_state "next_state" = true) (k_next_state : PySem.W.keepIn K (.ref f_next_state) = true)
    (a__law_is_begun : PySem.W.nsIn K mainGlobals "_law_is_begun" = some (some (.ref f__law_is_begun))) (l__law_is_begun : K.lookup f__law_is_begun = some ⟨oc__law_is_begun, od__law_is_begun, .func (PySem.W.fnOf "_law_is_begun" "_law_is_begun" (defArgs s__law_is_begun) (defBody s__law_is_begun) (defScope s__law_is_begun) .none kV__law_is_begun dc__law_is_begun pm__law_is_begun an__law_is_begun cd__law_is_begun ct__law_is_begun), sl__law_is_begun⟩) (c__law_is_begun : PySem.W.codeIn K cd__law_is_begun "_law_is_begun" = true) (k__law_is_begun : PySem.W.keepIn K (.ref f__law_is_begun) = true)
    (a__law_word : PySem.W.nsIn K mainGlobals "_law_word" = some (some (.ref f__law_word))) (l__law_word : K.lookup f__law_word = some ⟨oc__law_word, od__law_word, .func (PySem.W.fnOf "_law_word" "_law_word" (defArgs s__law_word) (defBody s__law_word) (defScope s__law_word) .none kV__law_word dc__law_word pm__law_word an__law_word cd__law_word ct__law_word), sl__law_word⟩) (c__law_word : PySem.W.codeIn K cd__law_word "_law_word" = true) (k__law_word : PySem.W.keepIn K (.ref f__law_word) = true)
    (a__law_bent : PySem.W.nsIn K mainGlobals "_law_bent" = some (some (.ref f__law_bent))) (l__law_bent : K.lookup f__law_bent = some ⟨oc__law_bent, od__law_bent, .func (PySem.W.fnOf "_law_bent" "_law_bent" (defArgs s__law_bent) (defBody s__law_bent) (defScope s__law_bent) .none kV__law_bent dc__law_bent pm__law_bent an__law_bent cd__law_bent ct__law_bent), sl__law_bent⟩) (c__law_bent : PySem.W.codeIn K cd__law_bent "_law_bent" = true) (k__law_bent : PySem.W.keepIn K (.ref f__law_bent) = true)
    (a_first_fault : PySem.W.nsIn K mainGlobals "first_fault" = some (some (.ref f_first_fault))) (l_first_fault : K.lookup f_first_fault = some ⟨oc_first_fault, od_first_fault, .func (PySem.W.fnOf "first_fault" "first_fault" (defArgs s_first_fault) (defBody s_first_fault) (defScope s_first_fault) .none kV_first_fault dc_first_fault pm_first_fault an_first_fault cd_first_fault ct_first_fault), sl_first_fault⟩) (c_first_fault : PySem.W.codeIn K cd_first_fault "first_fault" = true) (k_first_fault : PySem.W.keepIn K (.ref f_first_fault) = true)
    (a__law_due : PySem.W.nsIn K mainGlobals "_law_due" = some (some (.ref f__law_due))) (l__law_due : K.lookup f__law_due = some ⟨oc__law_due, od__law_due, .func (PySem.W.fnOf "_law_due" "_law_due" (defArgs s__law_due) (defBody s__law_due) (defScope s__law_due) .none kV__law_due dc__law_due pm__law_due an__law_due cd__law_due ct__law_due), sl__law_due⟩) (c__law_due : PySem.W.codeIn K cd__law_due "_law_due" = true) (k__law_due : PySem.W.keepIn K (.ref f__law_due) = true)
    (a__law_text : PySem.W.nsIn K mainGlobals "_law_text" = some (some (.ref f__law_text))) (l__law_text : K.lookup f__law_text = some ⟨oc__law_text, od__law_text, .func (PySem.W.fnOf "_law_text" "_law_text" (defArgs s__law_text) (defBody s__law_text) (defScope s__law_text) .none kV__law_text dc__law_text pm__law_text an__law_text cd__law_text ct__law_text), sl__law_text⟩) (c__law_text : PySem.W.codeIn K cd__law_text "_law_text" = true) (k__law_text : PySem.W.keepIn K (.ref f__law_text) = true)
    (a_parse_indent : PySem.W.nsIn K mainGlobals "parse_indent" = some (some (.ref f_parse_indent))) (l_parse_indent : K.lookup f_parse_indent = some ⟨oc_parse_indent, od_parse_indent, .func (PySem.W.fnOf "parse_indent" "parse_indent" (defArgs s_parse_indent) (defBody s_parse_indent) (defScope s_parse_indent) .none kV_parse_indent dc_parse_indent pm_parse_indent an_parse_indent cd_parse_indent ct_parse_indent), sl_parse_indent⟩) (c_parse_indent : PySem.W.codeIn K cd_parse_indent "parse_indent" = true) (k_parse_indent : PySem.W.keepIn K (.ref f_parse_indent) = true)
    (a__law_heard : PySem.W.nsIn K mainGlobals "_law_heard" = some (some (.ref f__law_heard))) (l__law_heard : K.lookup f__law_heard = some ⟨oc__law_heard, od__law_heard, .func (PySem.W.fnOf "_law_heard" "_law_heard" (defArgs s__law_heard) (defBody s__law_heard) (defScope s__law_heard) .none kV__law_heard dc__law_heard pm__law_heard an__law_heard cd__law_heard ct__law_heard), sl__law_heard⟩) (c__law_heard : PySem.W.codeIn K cd__law_heard "_law_heard" = true) (k__law_heard : PySem.W.keepIn K (.ref f__law_heard) = true)
    (a_law : PySem.W.nsIn K mainGlobals "law" = some (some (.ref f_law))) (l_law : K.lookup f_law = some ⟨oc_law, od_law, .func (PySem.W.fnOf "law" "law" (defArgs s_law) (defBody s_law) (defScope s_law) .none kV_law dc_law pm_law an_law cd_law ct_law), sl_law⟩) (c_law : PySem.W.codeIn K cd_law "law" = true) (k_law : PySem.W.keepIn K (.ref f_law) = true)
    (b_abs : PySem.W.nsIn K mainGlobals "abs" = some none)
    (b_enumerate : PySem.W.nsIn K mainGlobals "enumerate" = some none)
    (b_int : PySem.W.nsIn K mainGlobals "int" = some none)
    (b_isinstance : PySem.W.nsIn K mainGlobals "isinstance" = some none)
    (b_len : PySem.W.nsIn K mainGlobals "len" = some none)
    (b_list : PySem.W.nsIn K mainGlobals "list" = some none)
    (b_range : PySem.W.nsIn K mainGlobals "range" = some none)
    (b_repr : PySem.W.nsIn K mainGlobals "repr" = some none)
    (b_str : PySem.W.nsIn K mainGlobals "str" = some none)
    (b_sum : PySem.W.nsIn K mainGlobals "sum" = some none)
    {t_FINAL : Addr} (v_FINAL : PySem.W.nsIn K mainGlobals "FINAL" = some (some (.ref t_FINAL))) (w_FINAL : KwT K t_FINAL [V.str "zero tail", V.str "tail"])
    (xr : XRelK K ["TooLong", "InvalidNotation"] ["InvalidNotation", "TooLong", "BadDedent", "InvalidText", "InvalidTokens", "UnknownCommand", "TooMany", "PrismError", "ValueError"] ["length", "at"])
    (ek : XEk K ["InvalidNotation"])
    (mk_TooLong : Mk1K K "TooLong" "length")
    (mk_InvalidNotation : Mk1K K "InvalidNotation" "at")
    {t_BARE : Tok} (v_BARE : PySem.W.nsIn K mainGlobals "BARE" = some (some (.str "bare" t_BARE)))
    {t_DIGITS : Tok} (v_DIGITS : PySem.W.nsIn K mainGlobals "DIGITS" = some (some (.str "0123456789" t_DIGITS)))
    {t_MOST_CHARACTERS : Tok} (v_MOST_CHARACTERS : PySem.W.nsIn K mainGlobals "MOST_CHARACTERS" = some (some (.int 1000 t_MOST_CHARACTERS)))
    {t_PLUS : Tok} (v_PLUS : PySem.W.nsIn K mainGlobals "PLUS" = some (some (.str "plus" t_PLUS)))
    {t_POINT : Tok} (v_POINT : PySem.W.nsIn K mainGlobals "POINT" = some (some (.str "point" t_POINT)))
    {t_RUN : Tok} (v_RUN : PySem.W.nsIn K mainGlobals "RUN" = some (some (.str "run" t_RUN)))
    {t_START : Tok} (v_START : PySem.W.nsIn K mainGlobals "START" = some (some (.str "start" t_START)))
    {t_TAIL : Tok} (v_TAIL : PySem.W.nsIn K mainGlobals "TAIL" = some (some (.str "tail" t_TAIL)))
    {t_ZERO_RUN : Tok} (v_ZERO_RUN : PySem.W.nsIn K mainGlobals "ZERO_RUN" = some (some (.str "zero run" t_ZERO_RUN)))
    {t_ZERO_TAIL : Tok} (v_ZERO_TAIL : PySem.W.nsIn K mainGlobals "ZERO_TAIL" = some (some (.str "zero tail" t_ZERO_TAIL)))
    : ∃ fd : FuncData, (∀ (s : Shared) (v : Value), BindsTo s fd ⟨[v], []⟩ [("_law_script", v)]) ∧ ∀ base : Heap, K.In base → base.Ns mainGlobals mg → FnD l.prog w K mg base CX0 6 fa fd ["_law_script"] sp_law := by
  have e := hfa.symm.trans (PySem.W.mg_of X G a_law)
  cases e
  have F_need_characters := fun_mk (st := s_need_characters) l_need_characters c_need_characters k_need_characters
  have B_need_characters := F_need_characters.binds (ps := ["length"]) fun _ _ _ _ _ _ us hl => match us, hl with | [_], _ => rfl
  have F_number_state := fun_mk (st := s_number_state) l_number_state c_number_state k_number_state
  have B_number_state := F_number_state.binds (ps := ["char", "zero", "other"]) fun _ _ _ _ _ _ us hl => match us, hl with | [_, _, _], _ => rfl
  have F__law_pen := fun_mk (st := s__law_pen) l__law_pen c__law_pen k__law_pen
  have B__law_pen := F__law_pen.binds (ps := ["_law_script"]) fun _ _ _ _ _ _ us hl => match us, hl with | [_], _ => rfl
  have F__law_draw := fun_mk (st := s__law_draw) l__law_draw c__law_draw k__law_draw
  have B__law_draw := F__law_draw.binds (ps := ["_law_pen_here", "_law_many"]) fun _ _ _ _ _ _ us hl => match us, hl with | [_, _], _ => rfl
  have F__law_is_number := fun_mk (st := s__law_is_number) l__law_is_number c__law_is_number k__law_is_number
  have B__law_is_number := F__law_is_number.binds (ps := ["_law_word_here"]) fun _ _ _ _ _ _ us hl => match us, hl with | [_], _ => rfl
  have F_indent_of := fun_mk (st := s_indent_of) l_indent_of c_indent_of k_indent_of
  have B_indent_of := F_indent_of.binds (ps := ["runs", "tail"]) fun _ _ _ _ _ _ us hl => match us, hl with | [_, _], _ => rfl
  have F_next_state := fun_mk (st := s_next_state) l_next_state c_next_state k_next_state
  have B_next_state := F_next_state.binds (ps := ["state", "char"]) fun _ _ _ _ _ _ us hl => match us, hl with | [_, _], _ => rfl
  have F__law_is_begun := fun_mk (st := s__law_is_begun) l__law_is_begun c__law_is_begun k__law_is_begun
  have B__law_is_begun := F__law_is_begun.binds (ps := ["_law_text_here"]) fun _ _ _ _ _ _ us hl => match us, hl with | [_], _ => rfl
  have F__law_word := fun_mk (st := s__law_word) l__law_word c__law_word k__law_word
  have B__law_word := F__law_word.binds (ps := ["_law_pen_here"]) fun _ _ _ _ _ _ us hl => match us, hl with | [_], _ => rfl
  have F__law_bent := fun_mk (st := s__law_bent) l__law_bent c__law_bent k__law_bent
  have B__law_bent := F__law_bent.binds (ps := ["_law_pen_here", "_law_text_here"]) fun _ _ _ _ _ _ us hl => match us, hl with | [_, _], _ => rfl
  have F_first_fault := fun_mk (st := s_first_fault) l_first_fault c_first_fault k_first_fault
  have B_first_fault := F_first_fault.binds (ps := ["text"]) fun _ _ _ _ _ _ us hl => match us, hl with | [_], _ => rfl
  have F__law_due := fun_mk (st := s__law_due) l__law_due c__law_due k__law_due
  have B__law_due := F__law_due.binds (ps := ["_law_text_here"]) fun _ _ _ _ _ _ us hl => match us, hl with | [_], _ => rfl
  have F__law_text := fun_mk (st := s__law_text) l__law_text c__law_text k__law_text
  have B__law_text := F__law_text.binds (ps := ["_law_pen_here"]) fun _ _ _ _ _ _ us hl => match us, hl with | [_], _ => rfl
  have F_parse_indent := fun_mk (st := s_parse_indent) l_parse_indent c_parse_indent k_parse_indent
  have B_parse_indent := F_parse_indent.binds (ps := ["text"]) fun _ _ _ _ _ _ us hl => match us, hl with | [_], _ => rfl
  have F__law_heard := fun_mk (st := s__law_heard) l__law_heard c__law_heard k__law_heard
  have B__law_heard := F__law_heard.binds (ps := ["_law_thing"]) fun _ _ _ _ _ _ us hl => match us, hl with | [_], _ => rfl
  have F_law := fun_mk (st := s_law) l_law c_law k_law
  have B_law := F_law.binds (ps := ["_law_script"]) fun _ _ _ _ _ _ us hl => match us, hl with | [_], _ => rfl
  exact ⟨_, fun s v => .of_eq rfl, fun base _ _ => ok_law ⟨⟨F_need_characters, PySem.W.mg_of X G a_need_characters, B_need_characters⟩, ⟨F_number_state, PySem.W.mg_of X G a_number_state, B_number_state⟩, ⟨F__law_pen, PySem.W.mg_of X G a__law_pen, B__law_pen⟩, ⟨F__law_draw, PySem.W.mg_of X G a__law_draw, B__law_draw⟩, ⟨F__law_is_number, PySem.W.mg_of X G a__law_is_number, B__law_is_number⟩, ⟨F_indent_of, PySem.W.mg_of X G a_indent_of, B_indent_of⟩, ⟨F_next_state, PySem.W.mg_of X G a_next_state, B_next_state⟩, ⟨F__law_is_begun, PySem.W.mg_of X G a__law_is_begun, B__law_is_begun⟩, ⟨F__law_word, PySem.W.mg_of X G a__law_word, B__law_word⟩, ⟨F__law_bent, PySem.W.mg_of X G a__law_bent, B__law_bent⟩, ⟨F_first_fault, PySem.W.mg_of X G a_first_fault, B_first_fault⟩, ⟨F__law_due, PySem.W.mg_of X G a__law_due, B__law_due⟩, ⟨F__law_text, PySem.W.mg_of X G a__law_text, B__law_text⟩, ⟨F_parse_indent, PySem.W.mg_of X G a_parse_indent, B_parse_indent⟩, ⟨F__law_heard, PySem.W.mg_of X G a__law_heard, B__law_heard⟩, ⟨F_law, PySem.W.mg_of X G a_law, B_law⟩, PySem.W.mg_none_of X G b_abs, PySem.W.mg_none_of X G b_enumerate, PySem.W.mg_none_of X G b_int, PySem.W.mg_none_of X G b_isinstance, PySem.W.mg_none_of X G b_len, PySem.W.mg_none_of X G b_list, PySem.W.mg_none_of X G b_range, PySem.W.mg_none_of X G b_repr, PySem.W.mg_none_of X G b_str, PySem.W.mg_none_of X G b_sum, ⟨_, PySem.W.mg_of X G v_FINAL, w_FINAL⟩, xr.to X G, ek, mk_TooLong.to X G, mk_InvalidNotation.to X G, ⟨_, PySem.W.mg_of X G v_BARE⟩, ⟨_, PySem.W.mg_of X G v_DIGITS⟩, ⟨_, PySem.W.mg_of X G v_MOST_CHARACTERS⟩, ⟨_, PySem.W.mg_of X G v_PLUS⟩, ⟨_, PySem.W.mg_of X G v_POINT⟩, ⟨_, PySem.W.mg_of X G v_RUN⟩, ⟨_, PySem.W.mg_of X G v_START⟩, ⟨_, PySem.W.mg_of X G v_TAIL⟩, ⟨_, PySem.W.mg_of X G v_ZERO_RUN⟩, ⟨_, PySem.W.mg_of X G v_ZERO_TAIL⟩⟩⟩
end Lw
open PySem PySem.W PyProof.Rows
local instance : Pz.PenC := Pz.penL []
set_option maxHeartbeats 0 in
theorem PySem.Challenge.cw_tabprism_k80_notation_refused_holds : PySem.Challenge.rw_tabprism_k80_notation_refused.Holds := by
  w_on; o_law; k_head; (case hw => w_witness2)
  k_fill
  refine Pz.walkG (l := PySem.Challenge.rw_tabprism_k80_notation_refused) (n := 63) (k := 6) (x := "_law_script") (CX := fun _ => L2.CX0) (law := Lw.sp_law) rfl (by decide) rfl ⟨rfl, by decide, by decide⟩ (fun w h Y => PySem.W.kIn_of Y) ?F Lw.sp_ok (fun _ _ _ _ _ h => h)
  case F =>
    intro w mg fa h KX G hmg
    refine' Lw.all_mk KX G hmg ?a_need_characters ?l_need_characters ?c_need_characters ?k_need_characters ?a_number_state ?l_number_state ?c_number_state ?k_number_state ?a__law_pen ?l__law_pen ?c__law_pen ?k__law_pen ?a__law_draw ?l__law_draw ?c__law_draw ?k__law_draw ?a__law_is_number ?l__law_is_number ?c__law_is_number ?k__law_is_number ?a_indent_of ?l_indent_of ?c_indent_of ?k_indent_of ?a_next_state ?l_next_state ?c_next_state ?k_next_state ?a__law_is_begun ?l__law_is_begun ?c__law_is_begun ?k__law_is_begun ?a__law_word ?l__law_word ?c__law_word ?k__law_word ?a__law_bent ?l__law_bent ?c__law_bent ?k__law_bent ?a_first_fault ?l_first_fault ?c_first_fault ?k_first_fault ?a__law_due ?l__law_due ?c__law_due ?k__law_due ?a__law_text ?l__law_text ?c__law_text ?k__law_text ?a_parse_indent ?l_parse_indent ?c_parse_indent ?k_parse_indent ?a__law_heard ?l__law_heard ?c__law_heard ?k__law_heard ?a_law ?l_law ?c_law ?k_law ?b_abs ?b_enumerate ?b_int ?b_isinstance ?b_len ?b_list ?b_range ?b_repr ?b_str ?b_sum ?v_FINAL ?w_FINAL ?xr ?ek ?mk_TooLong ?mk_InvalidNotation ?v_BARE ?v_DIGITS ?v_MOST_CHARACTERS ?v_PLUS ?v_POINT ?v_RUN ?v_START ?v_TAIL ?v_ZERO_RUN ?v_ZERO_TAIL
    (case a_need_characters => k_is); (case l_need_characters => k_is); (case c_need_characters => k_is); (case k_need_characters => k_is); (case a_number_state => k_is); (case l_number_state => k_is); (case c_number_state => k_is); (case k_number_state => k_is); (case a__law_pen => k_is); (case l__law_pen => k_is); (case c__law_pen => k_is); (case k__law_pen => k_is); (case a__law_draw => k_is); (case l__law_draw => k_is); (case c__law_draw => k_is); (case k__law_draw => k_is); (case a__law_is_number => k_is); (case l__law_is_number => k_is); (case c__law_is_number => k_is); (case k__law_is_number => k_is); (case a_indent_of => k_is); (case l_indent_of => k_is); (case c_indent_of => k_is); (case k_indent_of => k_is); (case a_next_state => k_is); (case l_next_state => k_is); (case c_next_state => k_is); (case k_next_state => k_is); (case a__law_is_begun => k_is); (case l__law_is_begun => k_is); (case c__law_is_begun => k_is); (case k__law_is_begun => k_is); (case a__law_word => k_is); (case l__law_word => k_is); (case c__law_word => k_is); (case k__law_word => k_is); (case a__law_bent => k_is); (case l__law_bent => k_is); (case c__law_bent => k_is); (case k__law_bent => k_is); (case a_first_fault => k_is); (case l_first_fault => k_is); (case c_first_fault => k_is); (case k_first_fault => k_is); (case a__law_due => k_is); (case l__law_due => k_is); (case c__law_due => k_is); (case k__law_due => k_is); (case a__law_text => k_is); (case l__law_text => k_is); (case c__law_text => k_is); (case k__law_text => k_is); (case a_parse_indent => k_is); (case l_parse_indent => k_is); (case c_parse_indent => k_is); (case k_parse_indent => k_is); (case a__law_heard => k_is); (case l__law_heard => k_is); (case c__law_heard => k_is); (case k__law_heard => k_is); (case a_law => k_is); (case l_law => k_is); (case c_law => k_is); (case k_law => k_is); (case b_abs => k_is); (case b_enumerate => k_is); (case b_int => k_is); (case b_isinstance => k_is); (case b_len => k_is); (case b_list => k_is); (case b_range => k_is); (case b_repr => k_is); (case b_str => k_is); (case b_sum => k_is); (case v_FINAL => k_is); (case w_FINAL => exact ⟨_, _, _, (by k_is), rfl, rfl, by decide, (.cons ⟨_, rfl⟩ (.cons ⟨_, rfl⟩ .nil))⟩); (case xr => exact ⟨(Pz.ac (Pz.own_of (by k_is) ⟨Pz.is_some (by k_is), (by k_is), (by k_is), (by k_is), (by k_is), (by k_is), (by k_is), (by k_is), (by k_is)⟩) (Pz.ac (Pz.own_of (by k_is) ⟨Pz.is_some (by k_is), (by k_is), (by k_is), (by k_is), (by k_is), (by k_is), (by k_is), (by k_is), (by k_is)⟩) Pz.an)), (Pz.ac (Pz.rel_of (by k_is) (Pz.ac (Pz.rel_own (by k_is) (by kit_is) (by kts_exm) (by decide +kernel)) (Pz.ac (Pz.rel_own (by k_is) (by kit_is) (by kts_exm) (by decide +kernel)) (Pz.ac (Pz.rel_own (by k_is) (by kit_is) (by kts_exm) (by decide +kernel)) (Pz.ac (Pz.rel_own (by k_is) (by kit_is) (by kts_exm) (by decide +kernel)) (Pz.ac (Pz.rel_own (by k_is) (by kit_is) (by kts_exm) (by decide +kernel)) (Pz.ac (Pz.rel_own (by k_is) (by kit_is) (by kts_exm) (by decide +kernel)) (Pz.ac (Pz.rel_own (by k_is) (by kit_is) (by kts_exm) (by decide +kernel)) (Pz.ac (Pz.rel_own (by k_is) (by kit_is) (by kts_exm) (by decide +kernel)) (Pz.ac (Pz.rel_bi (n := "ValueError") (by k_is) (by kit_is) (by kts_exm) (by decide +kernel)) Pz.an)))))))))) (Pz.ac (Pz.rel_of (by k_is) (Pz.ac (Pz.rel_own (by k_is) (by kit_is) (by kts_exm) (by decide +kernel)) (Pz.ac (Pz.rel_own (by k_is) (by kit_is) (by kts_exm) (by decide +kernel)) (Pz.ac (Pz.rel_own (by k_is) (by kit_is) (by kts_exm) (by decide +kernel)) (Pz.ac (Pz.rel_own (by k_is) (by kit_is) (by kts_exm) (by decide +kernel)) (Pz.ac (Pz.rel_own (by k_is) (by kit_is) (by kts_exm) (by decide +kernel)) (Pz.ac (Pz.rel_own (by k_is) (by kit_is) (by kts_exm) (by decide +kernel)) (Pz.ac (Pz.rel_own (by k_is) (by kit_is) (by kts_exm) (by decide +kernel)) (Pz.ac (Pz.rel_own (by k_is) (by kit_is) (by kts_exm) (by decide +kernel)) (Pz.ac (Pz.rel_bi (n := "ValueError") (by k_is) (by kit_is) (by kts_exm) (by decide +kernel)) Pz.an)))))))))) Pz.an)), (Pz.ac (Pz.nm_own (by k_is)) (Pz.ac (Pz.nm_own (by k_is)) (Pz.ac (Pz.nm_own (by k_is)) (Pz.ac (Pz.nm_own (by k_is)) (Pz.ac (Pz.nm_own (by k_is)) (Pz.ac (Pz.nm_own (by k_is)) (Pz.ac (Pz.nm_own (by k_is)) (Pz.ac (Pz.nm_own (by k_is)) (Pz.ac (Pz.nm_bi (n := "ValueError") (by decide +kernel) (by k_is)) Pz.an))))))))), (Pz.ac (Pz.fld_of (by k_is) (Pz.ac (by k_is) (Pz.ac (by k_is) Pz.an))) (Pz.ac (Pz.fld_of (by k_is) (Pz.ac (by k_is) (Pz.ac (by k_is) Pz.an))) Pz.an))⟩); (case ek => exact (Pz.ac (Pz.ek_of (by k_is) ⟨Pz.is_some (by k_is), (by k_is), (by k_is), (by k_is), (by k_is), (by k_is), (by k_is), (by k_is), (by k_is)⟩ (Pz.ac (by kit_is) (Pz.ac (by kit_is) (Pz.ac (by kit_is) (Pz.ac (by kit_is) (Pz.ac (by kit_is) Pz.an)))))) Pz.an)); (case mk_TooLong => exact ⟨_, _, _, _, _, _, _, (by k_is), PySem.F.excBase_OverflowError, PySem.Xc.init_length PySem.F.store_OverflowError (by decide +kernel), ⟨⟨_, _, _, _, _, _, _, _, _, _, _, _, _, _, _, (by k_is), by decide +kernel⟩, (by k_is), (by k_is), (by k_is), (by k_is), (by k_is), (by k_is), (by k_is), ⟨_, _, _, _, _, _, _, _, _, _, _, _, _, _, (by k_is), (by k_is)⟩⟩⟩); (case mk_InvalidNotation => exact ⟨_, _, _, _, _, _, _, (by k_is), PySem.F.excBase_ValueError, PySem.Xc.init_at PySem.F.store_ValueError (by decide +kernel), ⟨⟨_, _, _, _, _, _, _, _, _, _, _, _, _, _, _, (by k_is), by decide +kernel⟩, (by k_is), (by k_is), (by k_is), (by k_is), (by k_is), (by k_is), (by k_is), ⟨_, _, _, _, _, _, _, _, _, _, _, _, _, _, (by k_is), (by k_is)⟩⟩⟩); (case v_BARE => k_is); (case v_DIGITS => k_is); (case v_MOST_CHARACTERS => k_is); (case v_PLUS => k_is); (case v_POINT => k_is); (case v_RUN => k_is); (case v_START => k_is); (case v_TAIL => k_is); (case v_ZERO_RUN => k_is); (case v_ZERO_TAIL => k_is)
