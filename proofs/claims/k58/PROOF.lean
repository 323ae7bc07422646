import PyProof.Rows.All
import Wide.All
import OpenK.AllK
import Wide.FinOn
import HandS.List
import HandS.Exc
import HandS.Lambda
import HandS.Text
import HandS.Iter
import HandS.Comp
import HandS.TupAny
import HandS.Wide
import HandS.Words
import HandS.WordsExc
import HandS.ExcOwn
import HandS.Conv
import HandS.SortInts
import HandS.RaiseMore
import PyProof.ReprRoads
import HandS.More
import HandS.StrMore
import HandS.Replace
import HandS.Ends
import HandS.EndBits
import HandS.Style
import HandS.Deep
import PyProof.ReprLen
import HandS.Codes
import HandS.Zip
import HandS.IsInst
import HandS.Dict
import KE.GoesEnum
import HandS.Defaults
import HandS.Flow
import HandS.WideBits
import KE.DataMinMax
import HandS.SortKw
import PyProof.Rows.SortShellAny
import KE.KRevSl
import OpenK.KTop
import HandS.TryMany
import KE.KTryMore
import KE.KExcInit
import PyProof.ExcBaseAll.OverflowError
import PyProof.ExcBaseAll.IndexError
import PyProof.ExcBaseAll.RuntimeError
import HandS.ExcField
import KE.KExcIs
import KE.RegKIsAll
import KE.RegKTryMore
import KE.KDictList
import KE.SortData
import KE.SortKeyHeap
import HandS.EndTab
import PyProof.TabOkSpec
import PyProof.StrReplace2
import HandS.TupSets
import HandS.NoneIn
import HandS.FStr
import PyProof.FString5
import PyProof.CallStr
import HandS.DictComp
import HandS.ExcInit
import HandS.TupMul
import HandS.DictTup
import HandS.DictSubView
import KE.KDictCopyH
import KE.KDictDisplayH
import HandS.TupLen
import HandS.ReplaceList
import PySem.Challenge.RW_tabprism_k58_never_and_too_many
set_option Elab.async false
set_option linter.all false
set_option maxRecDepth 100000
namespace Pz
open PySem PySem.Spec PyProof.Rows L2
abbrev Frag := PySem.W.Frag
class TabC where
  T : List (Addr × Str)
  /-- whether a tuple of the program's top may stand among the data -/
  kw : Prop := True
abbrev NotTbl (o : HO) : Prop := ∀ ps : Array Value, o ≠ .tbl ps
def TabOk [TabC] (W : Addr → Prop) (H : Hp) : Prop := LamX.Tabs TabC.T H ∧ (∀ b ps, H b = some (.tbl ps) → ∃ p ∈ TabC.T, p.1 = b) ∧
  (∀ p ∈ TabC.T, ∀ ps, H p.1 = some (.tbl ps) → ∀ pos c, codeAmong pos ps.toList = some (.ref c) → ¬ W c) ∧ ∀ b xs, H b = some (.tup xs) → ¬ W b
theorem TabOk.less [TabC] {W W' : Addr → Prop} {H : Hp} (t : TabOk W H) (h : ∀ a, W' a → W a) : TabOk W' H := ⟨t.1, t.2.1, fun p hp ps e pos c hc w => t.2.2.1 p hp ps e pos c hc (h c w), fun b xs e w => t.2.2.2 b xs e (h b w)⟩
inductive Sl where
  | d (x : PyData)
  | o (h : Nat)
  | r (v : V)
  /-- a lambda: its address; what was written when it was made, the objects then -/
  | l (f : Addr) (W : Addr → Prop) (H : Hp)
  /-- a list of ints that is only read (the script) -/
  | f (ns : List Int)
inductive Ct where
  | lst (xs : List PyData)
  /-- a list whose items may be written themselves -/
  | lsS (xs : List Sl)
  | dK (kvs : List (Key × PyData))
  | dT (kvs : List (List Key × PyData))
  | ins (C : Addr) (fs : List (Str × Sl))
  /-- an exception that was caught: its class, its fields -/
  | exc (c : Str) (fs : List (Str × PyData))
  | dead
def Ct.live : Ct → Prop
  | .dead => False
  | _ => True
def Ct.wr : Ct → Prop
  | .dead => False
  | .exc _ _ => False
  | _ => True
theorem Ct.wr.live : ∀ {c : Ct}, c.wr → c.live
  | .lst _, _ => trivial
  | .lsS _, _ => trivial
  | .dK _, _ => trivial
  | .dT _, _ => trivial
  | .ins _ _, _ => trivial
abbrev Sls := List (Option Sl)
abbrev Sto := List Ct
def keyD : Key → PyData
  | .inl i => .int i
  | .inr x => .str x
def kyT (k : List Key) : PyData := .tuple (k.map keyD)
def mkK : PyData × PyData := (.none, .bool false)
def mkT : PyData × PyData := (.none, .bool true)
def KwL (K : Frag) (a : Addr) (xs : List V) : Prop := ∃ (o : Obj) (its : Array Value) (n : Nat), K.lookup a = some o ∧ o.cls = .type "list" ∧ o.dict = none ∧ o.data = .seq its n ∧ its.size ≤ sizeLine ∧ Vals xs its.toList
def KwT (K : Frag) (a : Addr) (xs : List V) : Prop := ∃ (o : Obj) (its : Array Value) (n : Nat), K.lookup a = some o ∧ o.cls = .type "tuple" ∧ o.data = .seq its n ∧ its.size ≤ sizeLine ∧ Vals xs its.toList
def ImL (K : Frag) (W : Addr → Prop) (H : Hp) (a : Addr) (xs : List V) : Prop := (Rd H a (.lst xs) ∧ ¬ W a) ∨ KwL K a xs
variable [TabC]
def ImT (K : Frag) (W : Addr → Prop) (H : Hp) (a : Addr) (xs : List V) : Prop := (H a = some (.tup xs) ∧ ¬ W a) ∨ (TabC.kw ∧ KwT K a xs)
theorem ImL.sq {K : Frag} {W : Addr → Prop} {H : Hp} {a : Addr} {xs : List V} (h : ImL K W H a xs) : SqL K H a xs := h.elim (fun q => .inl q.1) .inr
theorem ImT.sq {K : Frag} {W : Addr → Prop} {H : Hp} {a : Addr} {xs : List V} (h : ImT K W H a xs) : SqT K H a xs := h.elim (fun q => .inl (.inl q.1)) fun q => .inr q.2
mutual
inductive Im (K : Frag) (W : Addr → Prop) (H : Hp) : V → PyData → Prop
  | non : Im K W H .non .none
  | bl (b : Bool) : Im K W H (.bl b) (.bool b)
  | int (i : Int) : Im K W H (.int i) (.int i)
  | str (x : Str) : Im K W H (.str x) (.str x)
  | lst {a : Addr} {xs : List V} {ds : List PyData} : H a = some (.lst xs) → ¬ W a → ImAll K W H xs ds → Im K W H (.ref a) (.list ds)
  | tup {a : Addr} {xs : List V} {ds : List PyData} : ImT K W H a xs → ImAll K W H xs ds → Im K W H (.ref a) (.tuple ds)
  | dct {a : Addr} {kvs : List (Key × V)} {ds : List PyData} : H a = some (.dK kvs) → ¬ W a → ImAll K W H (kvs.map (·.2)) ds → Im K W H (.ref a) (.dict ((kvs.map fun p => keyD p.1).zip ds))
  | dcl {a : Addr} {o : Obj} {kvs : List (Key × V)} {ds : List PyData} : H a = some (.frz o (.dK kvs)) → ¬ W a → ImAll K W H (kvs.map (·.2)) ds → Im K W H (.ref a) (.dict (mkK :: (kvs.map fun p => keyD p.1).zip ds))
  | dcT {a : Addr} {o : Obj} {kvs : List (List Key × V)} {ds : List PyData} : H a = some (.frz o (.dT kvs)) → ¬ W a → ImAll K W H (kvs.map (·.2)) ds → Im K W H (.ref a) (.dict (mkT :: (kvs.map fun p => kyT p.1).zip ds))
inductive ImAll (K : Frag) (W : Addr → Prop) (H : Hp) : List V → List PyData → Prop
  | nil : ImAll K W H [] []
  | cons {v : V} {vs : List V} {d : PyData} {ds : List PyData} : Im K W H v d → ImAll K W H vs ds → ImAll K W H (v :: vs) (d :: ds)
end
structure Zs where
  φ : List Addr
  st : Sto
  H : Hp
  F : Addr → Prop
def Zs.O (Z : Zs) (a : Addr) : Prop := ∃ (h : Nat) (c : Ct), Z.φ[h]? = some a ∧ Z.st[h]? = some c ∧ c.live
def Zs.W (Z : Zs) (a : Addr) : Prop := Z.O a ∨ Z.F a
abbrev Zs.Im (K : Frag) (Z : Zs) : V → PyData → Prop := Pz.Im K Z.W Z.H
abbrev Zs.ImAll (K : Frag) (Z : Zs) : List V → List PyData → Prop := Pz.ImAll K Z.W Z.H
structure Stay (W W' : Addr → Prop) (H H' : Hp) : Prop where
  f : ∀ b o, H b = some o → ¬ W b → (hn : NotTbl o := by exact fun _ z => nomatch z) → H' b = some o
  g : ∀ b o, H b = some o → ¬ W b → (hn : NotTbl o := by exact fun _ z => nomatch z) → ¬ W' b
theorem Stay.trans {W W1 W2 : Addr → Prop} {H H1 H2 : Hp} (a : Stay W W1 H H1) (b : Stay W1 W2 H1 H2) : Stay W W2 H H2 :=
  ⟨fun x o e n t => b.f x o (a.f x o e n t) (a.g x o e n t) t, fun x o e n t => b.g x o (a.f x o e n t) (a.g x o e n t) t⟩
def Rp (K : Frag) (Z : Zs) (v : V) : Sl → Prop
  | .d x => Z.Im K v x
  | .o h => ∃ (a : Addr) (c : Ct), v = .ref a ∧ Z.φ[h]? = some a ∧ Z.st[h]? = some c ∧ c.live
  | .r u => v = u
  | .l f W H => v = .ref f ∧ Stay W Z.W H Z.H
  | .f ns => ∃ a, v = .ref a ∧ ImL K Z.W Z.H a (ns.map V.int)
inductive RpAll (K : Frag) (Z : Zs) : List V → List Sl → Prop
  | nil : RpAll K Z [] []
  | cons {v vs s ss} : Rp K Z v s → RpAll K Z vs ss → RpAll K Z (v :: vs) (s :: ss)
def ExH (c : Value) (d : Option Addr) (a : Addr) : HO := .ext fun h => ∃ (oe : Obj) (vs : Array Value), h.get? a = some oe ∧ Zc c d oe ∧ oe.data = .fields vs
def ClsV (K : Frag) (x : Str) (c : Value) : Prop := PySem.W.nsIn K mainGlobals x = some (some c)
theorem ClsV.eq {K : Frag} {x : Str} {c c' : Value} (h : ClsV K x c) (h' : ClsV K x c') : c = c' := by
  unfold ClsV at h h'
  rw [h] at h'
  exact Option.some.inj (Option.some.inj h')
def XcOk (K : Frag) (Z : Zs) (fs : List (Str × PyData)) : Option Addr → Prop
  | none => fs = []
  | some dx => ¬ Z.W dx ∧ ∃ us : List (Str × V), Z.H dx = some (.xd us) ∧ us.map (·.1) = fs.map (·.1) ∧ Z.ImAll K (us.map (·.2)) (fs.map (·.2))
def CtOk (K : Frag) (Z : Zs) (a : Addr) : Ct → Prop
  | .lst ds => ∃ vs, Z.H a = some (.lst vs) ∧ Z.ImAll K vs ds
  | .lsS xs => ∃ vs, Z.H a = some (.lst vs) ∧ RpAll K Z vs xs
  | .dK kvs => ∃ us : List (Key × V), Z.H a = some (.dK us) ∧ us.map (·.1) = kvs.map (·.1) ∧ Z.ImAll K (us.map (·.2)) (kvs.map (·.2))
  | .dT kvs => ∃ us : List (List Key × V), Z.H a = some (.dT us) ∧ us.map (·.1) = kvs.map (·.1) ∧ Z.ImAll K (us.map (·.2)) (kvs.map (·.2))
  | .ins C fs => ∃ (dx : Addr) (us : List (Str × V)), Z.H a = some (.ins C dx us) ∧ us.map (·.1) = fs.map (·.1) ∧ RpAll K Z (us.map (·.2)) (fs.map (·.2))
  | .exc c fs => ∃ cv d, ClsV K c cv ∧ Z.H a = some (ExH cv d a) ∧ XcOk K Z fs d
  | .dead => Z.H a ≠ none
structure Ok (K : Frag) (Z : Zs) : Prop where
  len : Z.φ.length = Z.st.length
  nd : Z.φ.Nodup
  ct : ∀ (h : Nat) (a : Addr) (c : Ct), Z.φ[h]? = some a → Z.st[h]? = some c → CtOk K Z a c
  fo : ∀ a, Z.F a → ∃ o, Z.H a = some o
  fd : ∀ a ∈ Z.φ, ¬ Z.F a
  tb : TabOk Z.W Z.H
structure Le (Z Z' : Zs) : Prop where
  pre : ∃ ψ : List Addr, Z'.φ = Z.φ ++ ψ ∧ ∀ a ∈ ψ, Z.H a = none
  len : Z.st.length = Z.φ.length
  liv : ∀ (h : Nat) (c : Ct), Z.st[h]? = some c → ∃ c', Z'.st[h]? = some c' ∧ (c.live ↔ c'.live)
  frm : ∀ a o, Z.H a = some o → ¬ Z.O a → NotTbl o → Z'.H a = some o
  fgn : Z'.F = Z.F
  dom : ∀ a o, Z.H a = some o → ∃ o', Z'.H a = some o'
theorem ctok_some {K : Frag} {Z : Zs} {a : Addr} {c : Ct} (h : CtOk K Z a c) : ∃ o, Z.H a = some o := by
  cases c with
  | lst ds => obtain ⟨vs, e, _⟩ := h; exact ⟨_, e⟩
  | lsS ds => obtain ⟨vs, e, _⟩ := h; exact ⟨_, e⟩
  | dK ds => obtain ⟨vs, e, _⟩ := h; exact ⟨_, e⟩
  | dT ds => obtain ⟨vs, e, _⟩ := h; exact ⟨_, e⟩
  | ins C fs => obtain ⟨dx, us, e, _⟩ := h; exact ⟨_, e⟩
  | exc c fs => obtain ⟨cv, d, _, e, _⟩ := h; exact ⟨_, e⟩
  | dead =>
    cases q : Z.H a with
    | none => exact absurd q h
    | some o => exact ⟨o, rfl⟩
theorem Ok.has {K : Frag} {Z : Zs} (ok : Ok K Z) {a : Addr} (h : a ∈ Z.φ) : ∃ o, Z.H a = some o := by
  obtain ⟨i, hi, e⟩ := List.getElem_of_mem h
  have hi2 : i < Z.st.length := by rw [← ok.len]; exact hi
  exact ctok_some (ok.ct i a Z.st[i] (by rw [List.getElem?_eq_getElem hi, e]) (List.getElem?_eq_getElem hi2))
theorem Ok.fresh {K : Frag} {Z : Zs} (ok : Ok K Z) {p : Addr} (h : Z.H p = none) : p ∉ Z.φ := fun m => by
  obtain ⟨o, e⟩ := ok.has m
  rw [h] at e; cases e
theorem Zs.O.mem {Z : Zs} {a : Addr} (h : Z.O a) : a ∈ Z.φ := by
  obtain ⟨i, c, e, _⟩ := h
  exact List.mem_of_getElem? e
theorem Ok.nw {K : Frag} {Z : Zs} (ok : Ok K Z) {p : Addr} (h : Z.H p = none) : ¬ Z.W p := fun w => by
  rcases w with w | w
  · exact ok.fresh h w.mem
  · obtain ⟨o, e⟩ := ok.fo p w
    rw [h] at e; cases e
theorem Le.refl {K : Frag} {Z : Zs} (ok : Ok K Z) : Le Z Z := ⟨⟨[], by simp, fun _ h => by cases h⟩, ok.len.symm, fun h c e => ⟨c, e, Iff.rfl⟩, fun _ _ e _ _ => e, rfl, fun _ o e => ⟨o, e⟩⟩
theorem Le.o {Z Z' : Zs} (l : Le Z Z') {a : Addr} (h : Z'.O a) : Z.O a ∨ Z.H a = none := by
  obtain ⟨i, c', e1, e2, e3⟩ := h
  obtain ⟨ψ, e, hn⟩ := l.pre
  rw [e] at e1
  by_cases hi : i < Z.φ.length
  · rw [List.getElem?_append_left hi] at e1
    have hi2 : i < Z.st.length := by rw [l.len]; exact hi
    obtain ⟨c2, q1, q2⟩ := l.liv i Z.st[i] (List.getElem?_eq_getElem hi2)
    rw [e2] at q1
    cases q1
    exact .inl ⟨i, Z.st[i], e1, List.getElem?_eq_getElem hi2, q2.mpr e3⟩
  · rw [List.getElem?_append_right (by omega)] at e1
    exact .inr (hn a (List.mem_of_getElem? e1))
theorem Le.no {Z Z' : Zs} (l : Le Z Z') {a : Addr} {o : HO} (e : Z.H a = some o) (h : ¬ Z.O a) : ¬ Z'.O a := fun w => by
  rcases l.o w with q | q
  · exact h q
  · rw [e] at q; cases q
theorem Le.nw {Z Z' : Zs} (l : Le Z Z') {a : Addr} {o : HO} (e : Z.H a = some o) (h : ¬ Z.W a) : ¬ Z'.W a := fun w => by
  rcases w with w | w
  · exact l.no e (fun z => h (.inl z)) w
  · rw [l.fgn] at w; exact h (.inr w)
theorem Le.trans {Z Z1 Z2 : Zs} (a : Le Z Z1) (b : Le Z1 Z2) : Le Z Z2 where
  pre := by
    obtain ⟨ψ, e, hn⟩ := a.pre
    obtain ⟨ψ', e', hn'⟩ := b.pre
    refine ⟨ψ ++ ψ', by rw [e', e, List.append_assoc], fun x hx => ?_⟩
    rcases List.mem_append.mp hx with h | h
    · exact hn x h
    · have q := hn' x h
      cases e : Z.H x with
      | none => rfl
      | some o =>
        obtain ⟨o', e'⟩ := a.dom x o e
        rw [e'] at q; cases q
  len := a.len
  liv := fun h c e => by
    obtain ⟨c1, e1, q1⟩ := a.liv h c e
    obtain ⟨c2, e2, q2⟩ := b.liv h c1 e1
    exact ⟨c2, e2, q1.trans q2⟩
  frm := fun x o e h t => b.frm x o (a.frm x o e h t) (a.no e h) t
  fgn := b.fgn.trans a.fgn
  dom := fun x o e => by
    obtain ⟨o1, e1⟩ := a.dom x o e
    exact b.dom x o1 e1
section
variable {K : Frag} {W W' : Addr → Prop} {H H' : Hp}
theorem Stay.rd (s : Stay W W' H H') {a : Addr} {o : HO} (h : Rd H a o) (n : ¬ W a) (hn : NotTbl o := by exact fun _ z => nomatch z) : Rd H' a o ∧ ¬ W' a := by
  rcases h with h | ⟨u, h⟩
  · exact ⟨.inl (s.f _ _ h n hn), s.g _ _ h n hn⟩
  · exact ⟨.inr ⟨u, s.f _ _ h n⟩, s.g _ _ h n⟩
theorem ImL.tr (s : Stay W W' H H') {a : Addr} {xs : List V} (h : ImL K W H a xs) : ImL K W' H' a xs := h.elim (fun q => .inl (s.rd q.1 q.2)) .inr
theorem ImT.tr (s : Stay W W' H H') {a : Addr} {xs : List V} (h : ImT K W H a xs) : ImT K W' H' a xs := h.elim (fun q => .inl ⟨s.f _ _ q.1 q.2, s.g _ _ q.1 q.2⟩) .inr
mutual
theorem Im.tr (s : Stay W W' H H') : ∀ {v : V} {d : PyData}, Im K W H v d → Im K W' H' v d
  | _, _, .non => .non
  | _, _, .bl b => .bl b
  | _, _, .int b => .int b
  | _, _, .str b => .str b
  | _, _, .lst q n r => .lst (s.f _ _ q n) (s.g _ _ q n) (ImAll.tr s r)
  | _, _, .tup q r => .tup (q.tr s) (ImAll.tr s r)
  | _, _, .dct q n r => .dct (s.f _ _ q n) (s.g _ _ q n) (ImAll.tr s r)
  | _, _, .dcl q n r => .dcl (s.f _ _ q n) (s.g _ _ q n) (ImAll.tr s r)
  | _, _, .dcT q n r => .dcT (s.f _ _ q n) (s.g _ _ q n) (ImAll.tr s r)
theorem ImAll.tr (s : Stay W W' H H') : ∀ {vs : List V} {ds : List PyData}, ImAll K W H vs ds → ImAll K W' H' vs ds
  | _, _, .nil => .nil
  | _, _, .cons q r => .cons (Im.tr s q) (ImAll.tr s r)
end
theorem ImAll.length : ∀ {vs : List V} {ds : List PyData}, ImAll K W H vs ds → vs.length = ds.length
  | _, _, .nil => rfl
  | _, _, .cons _ r => by rw [List.length_cons, List.length_cons, ImAll.length r]
theorem ImAll.append : ∀ {vs vs' : List V} {ds ds' : List PyData}, ImAll K W H vs ds → ImAll K W H vs' ds' → ImAll K W H (vs ++ vs') (ds ++ ds')
  | _, _, _, _, .nil, s => s
  | _, _, _, _, .cons q r, s => .cons q (ImAll.append r s)
theorem ImAll.get : ∀ {vs : List V} {ds : List PyData} {i : Nat} {v : V}, ImAll K W H vs ds → vs[i]? = some v → ∃ d, ds[i]? = some d ∧ Im K W H v d
  | _, _, 0, _, .cons q _, e => by simp at e; subst e; exact ⟨_, rfl, q⟩
  | _, _, i + 1, v, .cons _ r, e => by simpa using ImAll.get (i := i) (v := v) r (by simpa using e)
theorem ImAll.get' : ∀ {vs : List V} {ds : List PyData} {i : Nat} {d : PyData}, ImAll K W H vs ds → ds[i]? = some d → ∃ v, vs[i]? = some v ∧ Im K W H v d
  | _, _, 0, _, .cons q _, e => by simp at e; subst e; exact ⟨_, rfl, q⟩
  | _, _, i + 1, v, .cons _ r, e => by simpa using ImAll.get' (i := i) (d := v) r (by simpa using e)
theorem ImAll.set {v : V} {d : PyData} (q : Im K W H v d) : ∀ {vs : List V} {ds : List PyData} (i : Nat), ImAll K W H vs ds → ImAll K W H (vs.set i v) (ds.set i d)
  | _, _, _, .nil => .nil
  | _, _, 0, .cons _ t => .cons q t
  | _, _, i + 1, .cons p t => .cons p (ImAll.set q i t)
theorem ImAll.take : ∀ {vs : List V} {ds : List PyData} (n : Nat), ImAll K W H vs ds → ImAll K W H (vs.take n) (ds.take n)
  | _, _, 0, _ => .nil
  | _, _, _ + 1, .nil => .nil
  | _, _, n + 1, .cons r t => .cons r (ImAll.take n t)
theorem ImAll.drop : ∀ {vs : List V} {ds : List PyData} (n : Nat), ImAll K W H vs ds → ImAll K W H (vs.drop n) (ds.drop n)
  | _, _, 0, r => r
  | _, _, _ + 1, .nil => .nil
  | _, _, n + 1, .cons _ t => ImAll.drop n t
theorem ImAll.reverse : ∀ {vs : List V} {ds : List PyData}, ImAll K W H vs ds → ImAll K W H vs.reverse ds.reverse
  | _, _, .nil => .nil
  | _, _, .cons q r => by
    rw [List.reverse_cons, List.reverse_cons]
    exact (ImAll.reverse r).append (.cons q .nil)
mutual
theorem Im.dp : ∀ {v : V} {d : PyData}, Im K W H v d → d.hasDict = false → Dp K H v d
  | _, _, .non, _ => .non
  | _, _, .bl b, _ => .bl b
  | _, _, .int b, _ => .int b
  | _, _, .str b, _ => .str b
  | _, _, .lst q n r, e => .lst (.of q) (ImAll.dp r (by simpa [PyData.hasDict] using e))
  | _, _, .tup q r, e => .tup q.sq (ImAll.dp r (by simpa [PyData.hasDict] using e))
  | _, _, .dct q n r, e => by simp [PyData.hasDict] at e
  | _, _, .dcl q n r, e => by simp [PyData.hasDict] at e
  | _, _, .dcT q n r, e => by simp [PyData.hasDict] at e
theorem ImAll.dp : ∀ {vs : List V} {ds : List PyData}, ImAll K W H vs ds → PyData.hasDictAll ds = false → DpAll K H vs ds
  | _, _, .nil, _ => .nil
  | _, _, .cons q r, e => by
    simp only [PyData.hasDictAll, Bool.or_eq_false_iff] at e
    exact .cons (Im.dp q e.1) (ImAll.dp r e.2)
end
end
section
variable {K : Frag} {Z Z' : Zs}
theorem Le.stay (l : Le Z Z') : Stay Z.W Z'.W Z.H Z'.H := ⟨fun b o e n t => l.frm b o e (fun z => n (.inl z)) t, fun _ _ e n _ => l.nw e n⟩
theorem Rp.tr (l : Le Z Z') {v : V} {s : Sl} (h : Rp K Z v s) : Rp K Z' v s := by
  cases s with
  | d x => exact Im.tr l.stay h
  | o i =>
    obtain ⟨a, c, e, e1, e2, e3⟩ := h
    obtain ⟨ψ, q, _⟩ := l.pre
    obtain ⟨c', q1, q2⟩ := l.liv i c e2
    refine ⟨a, c', e, ?_, q1, q2.mp e3⟩
    rw [q, List.getElem?_append_left (List.getElem?_eq_some_iff.mp e1).1]
    exact e1
  | r u => exact h
  | l _ _ _ => exact ⟨h.1, h.2.trans l.stay⟩
  | f ns => obtain ⟨a, e, q⟩ := h; exact ⟨a, e, q.tr l.stay⟩
theorem RpAll.tr (l : Le Z Z') : ∀ {vs : List V} {ss : List Sl}, RpAll K Z vs ss → RpAll K Z' vs ss
  | _, _, .nil => .nil
  | _, _, .cons q r => .cons (q.tr l) (RpAll.tr l r)
theorem RpAll.length : ∀ {vs : List V} {ss : List Sl}, RpAll K Z vs ss → vs.length = ss.length
  | _, _, .nil => rfl
  | _, _, .cons _ r => by rw [List.length_cons, List.length_cons, RpAll.length r]
def Zs.new (Z : Zs) (p : Addr) (o : HO) : Zs := { Z with H := upd Z.H p o }
theorem upd_keep {H : Hp} {p b : Addr} {o u : HO} (n : H p = none) (e : H b = some u) : upd H p o b = some u := by
  rw [upd_ne (ne_of_none e n)]; exact e
theorem Ok.leNew (ok : Ok K Z) {p : Addr} {o : HO} (n : Z.H p = none) : Le Z (Z.new p o) where
  pre := ⟨[], by simp [Zs.new], fun _ h => by cases h⟩
  len := ok.len.symm
  liv := fun h c e => ⟨c, e, Iff.rfl⟩
  frm := fun a u e _ _ => upd_keep n e
  fgn := rfl
  dom := fun a u e => ⟨u, upd_keep n e⟩
theorem XcOk.tr (s : Stay Z.W Z'.W Z.H Z'.H) {fs : List (Str × PyData)} : ∀ {d : Option Addr}, XcOk K Z fs d → XcOk K Z' fs d
  | none, h => h
  | some dx, h => by
    obtain ⟨n, us, e, e2, q⟩ := h
    exact ⟨s.g _ _ e n, us, s.f _ _ e n, e2, ImAll.tr s q⟩
theorem ctok_st (s : Stay Z.W Z'.W Z.H Z'.H) (hr : ∀ {v : V} {x : Sl}, Rp K Z v x → Rp K Z' v x) {a : Addr} (hH : ∀ o, Z.H a = some o → NotTbl o → Z'.H a = some o) (hD : ∀ o, Z.H a = some o → ∃ o', Z'.H a = some o') : ∀ {c : Ct}, CtOk K Z a c → CtOk K Z' a c
  | .lst ds, h => by obtain ⟨vs, e, q⟩ := h; exact ⟨vs, hH _ e (fun _ z => nomatch z), ImAll.tr s q⟩
  | .lsS xs, h => by
    obtain ⟨vs, e, q⟩ := h
    refine ⟨vs, hH _ e (fun _ z => nomatch z), ?_⟩
    have : ∀ {vs : List V} {ss : List Sl}, RpAll K Z vs ss → RpAll K Z' vs ss := by
      intro vs ss r
      induction r with
      | nil => exact .nil
      | cons p _ ih => exact .cons (hr p) ih
    exact this q
  | .dK kvs, h => by obtain ⟨vs, e, e2, q⟩ := h; exact ⟨vs, hH _ e (fun _ z => nomatch z), e2, ImAll.tr s q⟩
  | .dT kvs, h => by obtain ⟨vs, e, e2, q⟩ := h; exact ⟨vs, hH _ e (fun _ z => nomatch z), e2, ImAll.tr s q⟩
  | .ins C fs, h => by
    obtain ⟨dx, us, e, e2, q⟩ := h
    refine ⟨dx, us, hH _ e (fun _ z => nomatch z), e2, ?_⟩
    have : ∀ {vs : List V} {ss : List Sl}, RpAll K Z vs ss → RpAll K Z' vs ss := by
      intro vs ss r
      induction r with
      | nil => exact .nil
      | cons p _ ih => exact .cons (hr p) ih
    exact this q
  | .exc c fs, h => by obtain ⟨cv, d, hc, e, q⟩ := h; exact ⟨cv, d, hc, hH _ e (fun _ z => nomatch z), q.tr s⟩
  | .dead, h => fun z => by
    cases q : Z.H a with
    | none => exact h q
    | some o => obtain ⟨o', e'⟩ := hD _ q; rw [e'] at z; cases z
theorem tabs_upd1 {T : List (Addr × Str)} {H : Hp} {a : Addr} {o : HO} (t : LamX.Tabs T H) (h1 : ∀ ps, H a ≠ some (.tbl ps)) (h2 : ∀ c q, H a ≠ some (LamX.CodeO c q)) : LamX.Tabs T (upd H a o) := fun p hp => by
  obtain ⟨ps, e1, e2, e3⟩ := t p hp
  refine ⟨ps, ?_, e2, fun pos cv hc => ?_⟩
  · rw [upd_ne (fun z => h1 ps (by rw [← z]; exact e1))]; exact e1
  · obtain ⟨c, q1, q2⟩ := e3 pos cv hc
    exact ⟨c, q1, by rw [upd_ne (fun z => h2 c _ (by rw [← z]; exact q2))]; exact q2⟩
theorem tabs_upd {W W' : Addr → Prop} {H : Hp} {a : Addr} {o : HO} (t : TabOk W H) (h1 : ∀ ps, H a ≠ some (.tbl ps)) (h2 : ∀ c q, H a ≠ some (LamX.CodeO c q)) (hW : ∀ x, W' x → W x ∨ H x = none) (ho : NotTbl o := by exact fun _ z => nomatch z) (ht : ∀ xs, o = .tup xs → ¬ W' a := by exact fun _ z => nomatch z) : TabOk W' (upd H a o) :=
  ⟨tabs_upd1 t.1 h1 h2, fun b ps e => by
    by_cases hb : b = a
    · subst hb
      rw [upd_same] at e
      exact absurd (Option.some.inj e) (ho ps)
    · rw [upd_ne hb] at e
      exact t.2.1 b ps e, (fun p hp ps e pos c hc w => by
    obtain ⟨us, e1, e2, e3⟩ := t.1 p hp
    have hp1 : p.1 ≠ a := fun z => h1 us (by rw [← z]; exact e1)
    rw [upd_ne hp1, e1] at e
    cases e
    rcases hW c w with z | z
    · exact t.2.2.1 p hp _ e1 pos c hc z
    · obtain ⟨c', q1, q2⟩ := e3 pos _ hc
      cases q1
      rw [z] at q2
      cases q2), fun b xs e w => by
    by_cases hb : b = a
    · subst hb
      rw [upd_same] at e
      exact ht xs (Option.some.inj e) w
    · rw [upd_ne hb] at e
      rcases hW b w with z | z
      · exact t.2.2.2 b xs e z
      · rw [z] at e; cases e⟩
theorem tabs_new {W W' : Addr → Prop} {H : Hp} {a : Addr} {o : HO} (t : TabOk W H) (n : H a = none) (hW : ∀ x, W' x → W x ∨ H x = none) (ho : NotTbl o := by exact fun _ z => nomatch z) (ht : ∀ xs, o = .tup xs → ¬ W' a := by exact fun _ z => nomatch z) : TabOk W' (upd H a o) := tabs_upd t (fun _ z => by rw [n] at z; cases z) (fun _ _ z => by rw [n] at z; cases z) hW ho ht
theorem CtOk.notup {K : Frag} {Z : Zs} {a : Addr} {c : Ct} (h : CtOk K Z a c) (l : c.live) (xs : List V) : Z.H a ≠ some (.tup xs) := fun z => by
  cases c with
  | lst ds => obtain ⟨vs, e, _⟩ := h; rw [e] at z; cases z
  | lsS ds => obtain ⟨vs, e, _⟩ := h; rw [e] at z; cases z
  | dK ds => obtain ⟨vs, e, _⟩ := h; rw [e] at z; cases z
  | dT ds => obtain ⟨vs, e, _⟩ := h; rw [e] at z; cases z
  | ins C fs => obtain ⟨dx, us, e, _⟩ := h; rw [e] at z; cases z
  | exc c fs => obtain ⟨cv, d, _, e, _⟩ := h; rw [e] at z; cases z
  | dead => exact l
theorem Le.w {Z Z' : Zs} (l : Le Z Z') : ∀ x, Z'.W x → Z.W x ∨ Z.H x = none := fun x w => by
  rcases w with w | w
  · exact (l.o w).elim (fun z => .inl (.inl z)) .inr
  · rw [l.fgn] at w; exact .inl (.inr w)
theorem Ok.new (ok : Ok K Z) {p : Addr} {o : HO} (n : Z.H p = none) (ho : NotTbl o := by exact fun _ z => nomatch z) : Ok K (Z.new p o) where
  len := ok.len
  nd := ok.nd
  ct := fun h a c e1 e2 => ctok_st (ok.leNew n).stay (fun q => q.tr (ok.leNew n)) (fun u e _ => upd_keep n e) (fun u e => ⟨u, upd_keep n e⟩) (ok.ct h a c e1 e2)
  fo := fun a h => let ⟨u, e⟩ := ok.fo a h; ⟨u, upd_keep n e⟩
  fd := ok.fd
  tb := tabs_new ok.tb n (ok.leNew (o := o) n).w ho fun _ _ w => ok.nw n w
theorem Ok.rpL (ok : Ok K Z) {p : Addr} {xs : List V} {ds : List PyData} (n : Z.H p = none) (h : Z.ImAll K xs ds) : Rp K (Z.new p (.lst xs)) (.ref p) (.d (.list ds)) :=
  Im.lst upd_same (fun w => ok.nw n w) (ImAll.tr (ok.leNew n).stay h)
theorem Ok.rpT (ok : Ok K Z) {p : Addr} {xs : List V} {ds : List PyData} (n : Z.H p = none) (h : Z.ImAll K xs ds) : Rp K (Z.new p (.tup xs)) (.ref p) (.d (.tuple ds)) :=
  Im.tup (.inl ⟨upd_same, fun w => ok.nw n w⟩) (ImAll.tr (ok.leNew n).stay h)
def vw (st : Sto) : Sl → Option PyData
  | .d x => some x
  | .o h => match st[h]? with
    | some (.lst ds) => some (.list ds)
    | _ => none
  | .r _ => none
  | .l _ _ _ => none
  | .f _ => none
theorem Rp.list (ok : Ok K Z) {v : V} {s : Sl} {ds : List PyData} (h : Rp K Z v s) (e : vw Z.st s = some (.list ds)) : ∃ a xs, v = .ref a ∧ Z.H a = some (.lst xs) ∧ Z.ImAll K xs ds := by
  cases s with
  | d x =>
    simp only [vw, Option.some.injEq] at e
    subst e
    cases h with
    | lst q _ r => exact ⟨_, _, rfl, q, r⟩
  | o i =>
    obtain ⟨a, c, ev, e1, e2, e3⟩ := h
    simp only [vw, e2] at e
    cases c with
    | lst ds' =>
      simp only [Option.some.injEq, PyData.list.injEq] at e
      subst e
      obtain ⟨vs, q, r⟩ := ok.ct i a _ e1 e2
      exact ⟨a, vs, ev, q, r⟩
    | _ => simp at e
  | r u => simp [vw] at e
  | l _ _ _ => simp [vw] at e
  | f ns => simp [vw] at e
theorem Rp.data {v : V} {s : Sl} {x : PyData} (h : Rp K Z v s) (e : vw Z.st s = some x) (n : ∀ ds, x ≠ .list ds) : Z.Im K v x := by
  cases s with
  | d y => simp only [vw, Option.some.injEq] at e; subst e; exact h
  | o i =>
    obtain ⟨a, c, ev, e1, e2, e3⟩ := h
    simp only [vw, e2] at e
    cases c with
    | lst ds' => simp only [Option.some.injEq] at e; exact absurd e.symm (n ds')
    | _ => simp at e
  | r u => simp [vw] at e
  | l _ _ _ => simp [vw] at e
  | f ns => simp [vw] at e
theorem Rp.int {v : V} {s : Sl} {i : Int} (h : Rp K Z v s) (e : vw Z.st s = some (.int i)) : v = .int i := by
  have q := h.data e (fun _ z => nomatch z); cases q; rfl
theorem Rp.str {v : V} {s : Sl} {i : Str} (h : Rp K Z v s) (e : vw Z.st s = some (.str i)) : v = .str i := by
  have q := h.data e (fun _ z => nomatch z); cases q; rfl
theorem Rp.bl {v : V} {s : Sl} {i : Bool} (h : Rp K Z v s) (e : vw Z.st s = some (.bool i)) : v = .bl i := by
  have q := h.data e (fun _ z => nomatch z); cases q; rfl
theorem Rp.non {v : V} {s : Sl} (h : Rp K Z v s) (e : vw Z.st s = some .none) : v = .non := by
  have q := h.data e (fun _ z => nomatch z); cases q; rfl
theorem Rp.tuple {v : V} {s : Sl} {ds : List PyData} (h : Rp K Z v s) (e : vw Z.st s = some (.tuple ds)) : ∃ a xs, v = .ref a ∧ ImT K Z.W Z.H a xs ∧ Z.ImAll K xs ds := by
  have q := h.data e (fun _ z => nomatch z)
  cases q with
  | tup q r => exact ⟨_, _, rfl, q, r⟩
theorem Rp.dp (ok : Ok K Z) {v : V} {s : Sl} {x : PyData} (h : Rp K Z v s) (e : vw Z.st s = some x) (n : x.hasDict = false) : Dp K Z.H v x := by
  cases s with
  | d y => simp only [vw, Option.some.injEq] at e; subst e; exact Im.dp h n
  | o i =>
    obtain ⟨a, c, ev, e1, e2, e3⟩ := id h
    simp only [vw, e2] at e
    cases c with
    | lst ds' =>
      simp only [Option.some.injEq] at e
      subst e
      obtain ⟨vs, q, r⟩ := ok.ct i a _ e1 e2
      subst ev
      exact .lst (.of q) (ImAll.dp r (by simpa [PyData.hasDict] using n))
    | _ => simp at e
  | r u => simp [vw] at e
  | l _ _ _ => simp [vw] at e
  | f ns => simp [vw] at e
end
abbrev DK := Sl → Sto → Prop
abbrev DX := Str → List (Str × PyData) → Sls → Sto → Prop
abbrev DE := DX → Sls → Sto → DK → Prop
abbrev DT := DX → Sls → Sto → (Bool → Sto → Prop) → Prop
abbrev DA := DX → Sls → Sto → (List Sl → Sto → Prop) → Prop
structure DEnds where
  nx : Sls → Sto → Prop
  rt : DK
  ex : DX
  bk : Sls → Sto → Prop := fun _ _ => False
  ct : Sls → Sto → Prop := fun _ _ => False
abbrev DS := DEnds → Sls → Sto → Prop
def nthS : Sls → Nat → Option Sl
  | [], _ => none
  | s :: _, 0 => s
  | _ :: r, i + 1 => nthS r i
theorem nthS_get : ∀ {sl : Sls} {i : Nat} {s : Sl}, nthS sl i = some s → sl[i]? = some (some s)
  | [], _, _, h => by simp [nthS] at h
  | _ :: _, 0, _, h => by simp [nthS] at h; simp [h]
  | _ :: r, i + 1, s, h => by
    rw [List.getElem?_cons_succ]
    exact nthS_get (by simpa [nthS] using h)
structure SlOk (K : Frag) (Z : Zs) (σ : L2.St) (sl : Sls) : Prop where
  len : sl.length = σ.length
  has : ∀ (i : Nat) (s : Sl), sl[i]? = some (some s) → ∃ v, σ[i]? = some (some v) ∧ Rp K Z v s
theorem SlOk.tr {K : Frag} {Z Z' : Zs} {σ : L2.St} {sl : Sls} (l : Le Z Z') (h : SlOk K Z σ sl) : SlOk K Z' σ sl :=
  ⟨h.len, fun i s e => let ⟨v, q, r⟩ := h.has i s e; ⟨v, q, r.tr l⟩⟩
theorem SlOk.set {K : Frag} {Z : Zs} {σ : L2.St} {sl : Sls} (h : SlOk K Z σ sl) (i : Nat) {v : V} {s : Sl} (r : Rp K Z v s) : SlOk K Z (σ.set i (some v)) (sl.set i (some s)) := by
  refine ⟨by simpa using h.len, fun j t e => ?_⟩
  by_cases hj : i = j
  · subst hj
    have hi : i < sl.length := by
      rcases Nat.lt_or_ge i sl.length with q | q
      · exact q
      · rw [List.getElem?_eq_none (by simpa using q)] at e; cases e
    rw [List.getElem?_set_self hi] at e
    cases e
    exact ⟨v, List.getElem?_set_self (by rw [← h.len]; exact hi), r⟩
  · rw [List.getElem?_set_ne hj] at e
    obtain ⟨u, q, r'⟩ := h.has j t e
    exact ⟨u, by rw [List.getElem?_set_ne hj]; exact q, r'⟩
def KOk (K : Frag) (Z : Zs) (Qd : DK) (Q : VK) : Prop := ∀ (Z' : Zs) (v : V) (s : Sl), Le Z Z' → Ok K Z' → Rp K Z' v s → Qd s Z'.st → Q v Z'.H
def KTOk (K : Frag) (Z : Zs) (Qd : Bool → Sto → Prop) (Q : Bool → Hp → Prop) : Prop := ∀ (Z' : Zs) (b : Bool), Le Z Z' → Ok K Z' → Qd b Z'.st → Q b Z'.H
def KAOk (K : Frag) (Z : Zs) (Qd : List Sl → Sto → Prop) (Q : List V → Hp → Prop) : Prop := ∀ (Z' : Zs) (vs : List V) (ss : List Sl), Le Z Z' → Ok K Z' → RpAll K Z' vs ss → Qd ss Z'.st → Q vs Z'.H
abbrev XdOk (K : Frag) (Z : Zs) (fs : List (Str × PyData)) (d : Option Addr) : Prop := XcOk K Z fs d
abbrev WXs := Value → Option Addr → L2.St → Hp → Prop
abbrev W0 : WXs := fun _ _ _ _ => False
def KXOk (K : Frag) (Z : Zs) (Ed : DX) (E : WXs) : Prop := ∀ (Z' : Zs) (σ : L2.St) (sl : Sls) (c : Value) (x : Str) (d : Option Addr) (fs : List (Str × PyData)), Le Z Z' → Ok K Z' → SlOk K Z' σ sl → XdOk K Z' fs d → ClsV K x c → Ed x fs sl Z'.st → E c d σ Z'.H
theorem KXOk.le {K : Frag} {Z Z1 : Zs} {Ed : DX} {E : WXs} (l : Le Z Z1) (h : KXOk K Z Ed E) : KXOk K Z1 Ed E := fun Z' σ sl c x d fs l' => h Z' σ sl c x d fs (l.trans l')
theorem KOk.le {K : Frag} {Z Z1 : Zs} {Qd : DK} {Q : VK} (l : Le Z Z1) (h : KOk K Z Qd Q) : KOk K Z1 Qd Q := fun Z' v s l' => h Z' v s (l.trans l')
def upE (K : Frag) (E : WXs) (τ : DE) : TE := fun σ H Q => ∃ (Z : Zs) (sl : Sls) (Qd : DK) (Ed : DX), Z.H = H ∧ Ok K Z ∧ SlOk K Z σ sl ∧ τ Ed sl Z.st Qd ∧ KOk K Z Qd Q ∧ KXOk K Z Ed E
def upT (K : Frag) (E : WXs) (τ : DT) : TT := fun σ H Q => ∃ (Z : Zs) (sl : Sls) (Qd : Bool → Sto → Prop) (Ed : DX), Z.H = H ∧ Ok K Z ∧ SlOk K Z σ sl ∧ τ Ed sl Z.st Qd ∧ KTOk K Z Qd Q ∧ KXOk K Z Ed E
def upA (K : Frag) (E : WXs) (τ : DA) : TA := fun σ H Q => ∃ (Z : Zs) (sl : Sls) (Qd : List Sl → Sto → Prop) (Ed : DX), Z.H = H ∧ Ok K Z ∧ SlOk K Z σ sl ∧ τ Ed sl Z.st Qd ∧ KAOk K Z Qd Q ∧ KXOk K Z Ed E
structure DEx (X : Cx) (E : WXs) (e : Expr) (τ : DE) : Prop where
  run : PE X e (upE X.K E τ)
structure DTs (X : Cx) (E : WXs) (e : Expr) (τ : DT) : Prop where
  run : PT X e (upT X.K E τ)
structure DWs (X : Cx) (E : WXs) (e : Expr) (τ : DT) : Prop where
  run : PW X e (upT X.K E τ)
structure DAs (X : Cx) (E : WXs) (es : List Expr) (τ : DA) : Prop where
  run : PA X es (upA X.K E τ)
abbrev Kp (Z Z' : Zs) : Prop := Stay Z.W Z'.W Z.H Z'.H
def KXK (K : Frag) (Z0 Zc : Zs) (Ed : DX) (E : WXs) : Prop := ∀ (Z' : Zs) (σ : L2.St) (sl : Sls) (c : Value) (x : Str) (d : Option Addr) (fs : List (Str × PyData)), Le Z0 Z' → Kp Zc Z' → Ok K Z' → SlOk K Z' σ sl → XdOk K Z' fs d → ClsV K x c → Ed x fs sl Z'.st → E c d σ Z'.H
theorem KXK.le {K : Frag} {Z0 Z : Zs} {Ed : DX} {E : WXs} (h : KXK K Z0 Z Ed E) (l : Le Z0 Z) : KXOk K Z Ed E := fun Z' σ sl c x d fs l' => h Z' σ sl c x d fs (l.trans l') l'.stay
theorem KXK.at {K : Frag} {Z0 Zc Z1 : Zs} {Ed : DX} {E : WXs} (h : KXK K Z0 Zc Ed E) (l : Kp Zc Z1) : KXK K Z0 Z1 Ed E := fun Z' σ sl c x d fs l0 l' => h Z' σ sl c x d fs l0 (l.trans l')
structure EndsOk (K : Frag) (E : WXs) (Z0 Zc : Zs) (Dd : DEnds) (D : Ends) : Prop where
  nx : ∀ (Z : Zs) (sl : Sls) (σ : L2.St), Le Z0 Z → Kp Zc Z → Ok K Z → SlOk K Z σ sl → Dd.nx sl Z.st → D.nx σ Z.H
  rt : ∀ (Z : Zs) (v : V) (s : Sl), Le Z0 Z → Ok K Z → Rp K Z v s → Dd.rt s Z.st → D.rt v Z.H
  ex : KXK K Z0 Zc Dd.ex E
  bk : ∀ (Z : Zs) (sl : Sls) (σ : L2.St), Le Z0 Z → Kp Zc Z → Ok K Z → SlOk K Z σ sl → Dd.bk sl Z.st → D.bk σ Z.H
  ct : ∀ (Z : Zs) (sl : Sls) (σ : L2.St), Le Z0 Z → Kp Zc Z → Ok K Z → SlOk K Z σ sl → Dd.ct sl Z.st → D.ct σ Z.H
theorem EndsOk.at {K : Frag} {E : WXs} {Z0 Zc Z1 : Zs} {Dd : DEnds} {D : Ends} (h : EndsOk K E Z0 Zc Dd D) (l : Kp Zc Z1) : EndsOk K E Z0 Z1 Dd D :=
  ⟨fun Z sl σ a b => h.nx Z sl σ a (l.trans b), h.rt, h.ex.at l, fun Z sl σ a b => h.bk Z sl σ a (l.trans b), fun Z sl σ a b => h.ct Z sl σ a (l.trans b)⟩
def upS (K : Frag) (E : WXs) (Z0 : Zs) (τ : DS) : TS := fun D σ H => ∃ (Z : Zs) (sl : Sls) (Dd : DEnds), Z.H = H ∧ Le Z0 Z ∧ Ok K Z ∧ SlOk K Z σ sl ∧ τ Dd sl Z.st ∧ EndsOk K E Z0 Z Dd D
structure DSt (X : Cx) (E : WXs) (Z0 : Zs) (st : Stmt) (τ : DS) : Prop where
  run : PS X st (upS X.K E Z0 τ)
structure DSs (X : Cx) (E : WXs) (Z0 : Zs) (st : List Stmt) (τ : DS) : Prop where
  run : PSs X st (upS X.K E Z0 τ)
section
variable {X : Cx}
theorem peI {e : Expr} {t t' : TE} (h : PE X e t) (i : ∀ σ H Q, t' σ H Q → t σ H Q) : PE X e t' := ⟨fun pins s σ H Q I q => h.run pins s σ H Q I (i σ H Q q)⟩
theorem ptI {e : Expr} {t t' : TT} (h : PT X e t) (i : ∀ σ H Q, t' σ H Q → t σ H Q) : PT X e t' := ⟨fun pins s σ H Q I q => h.run pins s σ H Q I (i σ H Q q)⟩
theorem pwI {e : Expr} {t t' : TT} (h : PW X e t) (i : ∀ σ H Q, t' σ H Q → t σ H Q) : PW X e t' := ⟨fun wh pins s σ H Q I q => h.run wh pins s σ H Q I (i σ H Q q)⟩
theorem paI {e : List Expr} {t t' : TA} (h : PA X e t) (i : ∀ σ H Q, t' σ H Q → t σ H Q) : PA X e t' := ⟨fun po pins s σ H Q I q => h.run po pins s σ H Q I (i σ H Q q)⟩
theorem psI {e : Stmt} {t t' : TS} (h : PS X e t) (i : ∀ D σ H, t' D σ H → t D σ H) : PS X e t' := ⟨fun pins s σ H D I q => h.run pins s σ H D I (i D σ H q)⟩
theorem pssI {e : List Stmt} {t t' : TS} (h : PSs X e t) (i : ∀ D σ H, t' D σ H → t D σ H) : PSs X e t' := ⟨fun pins s σ H D I q => h.run pins s σ H D I (i D σ H q)⟩
end
section
variable {X : Cx} {E : WXs} {Z0 : Zs} {a b c : Expr} {ta tb tc : DE} {pos : Pos}
def wC (s : Sl) : DE := fun _ _ st Q => Q s st
def wVar (i : Nat) : DE := fun _ sl st Q => match nthS sl i with
  | some s => Q s st
  | none => False
theorem de_c {e : Expr} {v : V} {x : PyData} (h : PE X e (tC v)) (r : ∀ (Z : Zs), Z.Im X.K v x) : DEx X E e (wC (.d x)) := ⟨peI h fun σ H Q ⟨Z, sl, Qd, Ed, e, ok, so, w, k, kx⟩ => by
  subst e
  exact k Z v (.d x) (.refl ok) ok (r Z) w⟩
theorem de_int {i j pos} : DEx X E (.Constant (.int i) j pos) (wC (.d (.int i))) := de_c pe_int fun _ => .int i
theorem de_bl {i j pos} : DEx X E (.Constant (.bool i) j pos) (wC (.d (.bool i))) := de_c pe_bl fun _ => .bl i
theorem de_non {j pos} : DEx X E (.Constant .none j pos) (wC (.d .none)) := de_c pe_non fun _ => .non
theorem de_str {i j pos} : DEx X E (.Constant (.str i) j pos) (wC (.d (.str i))) := de_c pe_str fun _ => .str i
theorem de_v (i : Nat) {x : Str} (h : PE X (.Name x pos) (tVar i)) : DEx X E (.Name x pos) (wVar i) := ⟨peI h fun σ H Q ⟨Z, sl, Qd, Ed, e, ok, so, w, k, kx⟩ => by
  subst e
  unfold wVar at w
  split at w
  · rename_i s es
    obtain ⟨v, q, r⟩ := so.has i s (nthS_get es)
    exact ⟨v, q, k Z v s (.refl ok) ok r w⟩
  · exact w.elim⟩
def D2 (K : Frag) (r : R2) (f : Sl → Sl → Sto → DK → Prop) : Prop := ∀ (Z : Zs) (v u : V) (s t : Sl) (Qd : DK) (Q : VK), Ok K Z → Rp K Z v s → Rp K Z u t → f s t Z.st Qd → KOk K Z Qd Q → r v u Z.H Q
def wOp (f : Sl → Sl → Sto → DK → Prop) (ta tb : DE) : DE := fun Ed sl st Q => ta Ed sl st fun x st => tb Ed sl st fun y st => f x y st Q
theorem wOp_ok {K : Frag} {r : R2} {f : Sl → Sl → Sto → DK → Prop} (hd : D2 K r f) (σ : L2.St) (H : Hp) (Q : VK) (h : upE K E (wOp f ta tb) σ H Q) : tOp r (upE K E ta) (upE K E tb) σ H Q := by
  obtain ⟨Z, sl, Qd, Ed, e, ok, so, w, k, kx⟩ := h
  refine ⟨Z, sl, _, Ed, e, ok, so, w, fun Z1 v s l1 ok1 r1 w1 => ?_, kx⟩
  refine ⟨Z1, sl, _, Ed, rfl, ok1, so.tr l1, w1, fun Z2 u t l2 ok2 r2 w2 => ?_, kx.le l1⟩
  exact hd Z2 v u s t Qd Q ok2 (r1.tr l2) r2 w2 (k.le (l1.trans l2))
theorem de_op {op : Operator} {r : R2} {f : Sl → Sl → Sto → DK → Prop} (hd : D2 X.K r f) (ho : OpR X (binaryOp op) r) (ha : DEx X E a ta) (hb : DEx X E b tb) : DEx X E (.BinOp a op b pos) (wOp f ta tb) :=
  ⟨peI (pe_op ho ha.run hb.run) (wOp_ok hd)⟩
theorem de_cmp {op : CmpOp} {r : R2} {f : Sl → Sl → Sto → DK → Prop} (hd : D2 X.K r f) (ho : OpR X (compareOp op) r) (ha : DEx X E a ta) (hb : DEx X E b tb) (hm : behindInMarks op b = false) : DEx X E (.Compare a [op] [b] pos) (wOp f ta tb) :=
  ⟨peI (pe_cmpR ho ha.run hb.run hm) (wOp_ok hd)⟩
def wTest (t : DE) : DT := fun Ed sl st Q => t Ed sl st fun s st => match s with
  | .d (.bool b) => Q b st
  | _ => False
theorem dt_cmp {op : CmpOp} {r : R2} {f : Sl → Sl → Sto → DK → Prop} (hd : D2 X.K r f) (ho : OpR X (compareOp op) r) (ha : DEx X E a ta) (hb : DEx X E b tb) (hm : behindInMarks op b = false) : DTs X E (.Compare a [op] [b] pos) (wTest (wOp f ta tb)) :=
  ⟨ptI (pt_cmpR ho ha.run hb.run hm) fun σ H Q h => wOp_ok hd σ H _ (by
    obtain ⟨Z, sl, Qd, Ed, e, ok, so, w, k, kx⟩ := h
    exact ⟨Z, sl, _, Ed, e, ok, so, w, (fun Z1 v s l1 ok1 r1 w1 => by
      simp only at w1
      split at w1
      · cases r1
        exact ⟨_, rfl, k Z1 _ l1 ok1 w1⟩
      · exact w1.elim), kx⟩)⟩
end
end Pz
set_option maxRecDepth 100000
namespace Pz
open PySem PySem.Spec PyProof.Rows L2 TL
variable [TabC]
section
variable {K : Frag} {Z : Zs}
theorem KOk.now {Qd : DK} {Q : VK} (k : KOk K Z Qd Q) (ok : Ok K Z) {v : V} {x : PyData} (r : Z.Im K v x) (q : Qd (.d x) Z.st) : Q v Z.H := k Z v (.d x) (.refl ok) ok r q
theorem KOk.same {Qd : DK} {Q : VK} (k : KOk K Z Qd Q) (ok : Ok K Z) {v : V} {s : Sl} (r : Rp K Z v s) (q : Qd s Z.st) : Q v Z.H := k Z v s (.refl ok) ok r q
theorem KOk.newL {Qd : DK} {Q : VK} (k : KOk K Z Qd Q) (ok : Ok K Z) {xs : List V} {ds : List PyData} (r : Z.ImAll K xs ds) (q : Qd (.d (.list ds)) Z.st) : ∀ p, Z.H p = none → Q (.ref p) (upd Z.H p (.lst xs)) :=
  fun p n => k (Z.new p (.lst xs)) (.ref p) _ (ok.leNew n) (ok.new n) (ok.rpL n r) q
theorem KOk.newT {Qd : DK} {Q : VK} (k : KOk K Z Qd Q) (ok : Ok K Z) {xs : List V} {ds : List PyData} (r : Z.ImAll K xs ds) (q : Qd (.d (.tuple ds)) Z.st) : ∀ p, Z.H p = none → Q (.ref p) (upd Z.H p (.tup xs)) :=
  fun p n => k (Z.new p (.tup xs)) (.ref p) _ (ok.leNew n) (ok.new n) (ok.rpT n r) q
theorem ImAll.nilIff {W : Addr → Prop} {H : Hp} {vs : List V} {ds : List PyData} (h : ImAll K W H vs ds) : vs = [] ↔ ds = [] := by
  cases h <;> simp
end
def oAdd (x y : Sl) (st : Sto) (Q : DK) : Prop := match vw st x, vw st y with
  | some (.int i), some (.int j) => Q (.d (.int (i + j))) st
  | some (.str a), some (.str b) => a.length + b.length ≤ sizeLine ∧ Q (.d (.str (a ++ b))) st
  | some (.list a), some (.list b) => a.length + b.length ≤ sizeLine ∧ Q (.d (.list (a ++ b))) st
  | some (.tuple a), some (.tuple b) => a.length + b.length ≤ sizeLine ∧ Q (.d (.tuple (a ++ b))) st
  | _, _ => False
def rAdd (K : Frag) : R2 := fun x y H Q => rI0 (fun i j => .int (i + j)) x y H Q ∨ (∃ i j, x = .str i ∧ y = .str j ∧ i.length + j.length ≤ sizeLine ∧ Q (.str (i ++ j)) H) ∨ rCat x y H Q ∨ rCatA K x y H Q
theorem op_addR {X : Cx} : OpR X (binaryOp .Add) (rAdd X.K) := op_add.or (op_add_str.or (op_cat.or op_catA))
theorem d2_add {K : Frag} : D2 K (rAdd K) oAdd := by
  intro Z v u s t Qd Q ok r1 r2 w k
  unfold oAdd at w
  split at w
  · rename_i i j e1 e2
    exact .inl ⟨i, j, r1.int e1, r2.int e2, k.now ok (.int _) w⟩
  · rename_i a b e1 e2
    exact .inr (.inl ⟨a, b, r1.str e1, r2.str e2, w.1, k.now ok (.str _) w.2⟩)
  · rename_i a b e1 e2
    obtain ⟨p, xs, rfl, h1, q1⟩ := r1.list ok e1
    obtain ⟨p2, ys, rfl, h2, q2⟩ := r2.list ok e2
    exact .inr (.inr (.inl ⟨p, p2, xs, ys, rfl, rfl, h1, h2, by rw [q1.length, q2.length]; exact w.1, k.newL ok (q1.append q2) w.2⟩))
  · rename_i a b e1 e2
    obtain ⟨p, xs, rfl, h1, q1⟩ := r1.tuple e1
    obtain ⟨p2, ys, rfl, h2, q2⟩ := r2.tuple e2
    refine .inr (.inr (.inr ⟨p, p2, xs, ys, rfl, rfl, h1.sq, h2.sq, by rw [q1.length, q2.length]; exact w.1, fun z => ?_, fun _ z => ?_, fun _ _ => k.newT ok (q1.append q2) w.2⟩))
    · have z' := q1.nilIff.mp z
      subst z'
      exact k.now ok (.tup h2 q2) (by simpa using w.2)
    · have z' := q2.nilIff.mp z
      subst z'
      exact k.now ok (.tup h1 q1) (by simpa using w.2)
  · exact w.elim
def oSub (x y : Sl) (st : Sto) (Q : DK) : Prop := match vw st x, vw st y with
  | some (.int i), some (.int j) => Q (.d (.int (i - j))) st
  | _, _ => False
theorem d2_sub {K : Frag} : D2 K (rI0 fun i j => .int (i - j)) oSub := by
  intro Z v u s t Qd Q ok r1 r2 w k
  unfold oSub at w
  split at w
  · rename_i i j e1 e2
    exact ⟨i, j, r1.int e1, r2.int e2, k.now ok (.int _) w⟩
  · exact w.elim
theorem tl_mul (x : Str) (n : Int) : tl (Txt.mul x n) = (List.replicate n.toNat (tl x)).flatten := by
  unfold Txt.mul
  by_cases h1 : n < 1
  · rw [if_pos h1]
    have : n.toNat = 0 := by omega
    rw [this]
    rfl
  · rw [if_neg h1]
    by_cases h2 : (n == 1 || x.length == 0) = true
    · rw [if_pos h2]
      simp only [Bool.or_eq_true, beq_iff_eq] at h2
      rcases h2 with h2 | h2
      · subst h2
        simp
      · have e : tl x = [] := (len0_tl x).mp h2
        rw [e]
        simp
    · rw [if_neg h2]
      have f : ∀ (k : Nat) (acc : Array Nat), (List.foldl (fun x1 x2 => x1 ++ x2) acc (List.replicate k x.cps)).toList = acc.toList ++ (List.replicate k x.cps.toList).flatten := by
        intro k
        induction k with
        | zero => intro acc; simp
        | succ k ih =>
          intro acc
          rw [List.replicate_succ, List.foldl_cons, ih, List.replicate_succ, List.flatten_cons, Array.toList_append, List.append_assoc]
      have := f n.toNat #[]
      simpa [tl] using this
theorem op_mul_str {X : Cx} : OpR X (binaryOp .Mult) (fun x y H Q => ∃ a n, x = .str a ∧ y = .int n ∧ -(2 ^ 63) ≤ n ∧ n < 2 ^ 63 ∧ a.length * n.toNat ≤ sizeLine ∧ Q (.str (Txt.mul a n)) H) := by
  intro pins s σ H x y v u Q I rx ry h
  obtain ⟨a, n, rfl, rfl, h1, h2, h3, q⟩ := h
  obtain ⟨t, rfl⟩ := rx
  obtain ⟨t', rfl⟩ := ry
  refine SB.mul ⟨?_, fun n1 _ => ?_, fun n1 _ => ?_⟩ fun t' k => ⟨.str _, H, I.tok _, ⟨_, rfl⟩, q⟩
  · have e1 : decide (n < -(2 ^ 63 : Int)) = false := decide_eq_false (by omega)
    have e2 : decide (n ≥ 2 ^ 63) = false := decide_eq_false (by omega)
    rw [e1, e2]; rfl
  · intro z
    have hs : sizeLine = 16777216 := sizeLine_eq
    have hn : (n.toNat : Int) = n := Int.toNat_of_nonneg (by omega)
    have h4 : (a.length : Int) * n ≤ 16777216 := by
      rw [← hn]
      have : ((a.length * n.toNat : Nat) : Int) ≤ 16777216 := by omega
      simpa using this
    have h5 : ((2 ^ 63 - 1) / n + 1) * n ≤ (a.length : Int) * n := Int.mul_le_mul_of_nonneg_right (by omega) (by omega)
    have h6 : n * ((2 ^ 63 - 1) / n) + (2 ^ 63 - 1) % n = (2 ^ 63 - 1 : Int) := Int.mul_ediv_add_emod _ _
    have h7 : (2 ^ 63 - 1 : Int) % n < n := Int.emod_lt_of_pos _ (by omega)
    rw [Int.add_mul, Int.one_mul, Int.mul_comm] at h5
    generalize n * ((2 ^ 63 - 1) / n) = q at h5 h6
    generalize (a.length : Int) * n = m at h4 h5
    generalize (2 ^ 63 - 1 : Int) % n = r at h6 h7
    omega
  · unfold Builtin.Str.tooLong
    exact decide_eq_false (by omega)
def SmallI (i : Int) : Prop := -(2 ^ 64) < i ∧ i < 2 ^ 64
instance {i : Int} : Decidable (SmallI i) := inferInstanceAs (Decidable (_ ∧ _))
def oMul (x y : Sl) (st : Sto) (Q : DK) : Prop := match vw st x, vw st y with
  | some (.int i), some (.int j) => (SmallI i ∨ SmallI j) ∧ Q (.d (.int (i * j))) st
  | some (.list a), some (.int j) => -(2 ^ 63) ≤ j ∧ j < 2 ^ 63 ∧ a.length * j.toNat ≤ sizeLine ∧ Q (.d (.list (List.replicate j.toNat a).flatten)) st
  | some (.str a), some (.int j) => -(2 ^ 63) ≤ j ∧ j < 2 ^ 63 ∧ a.length * j.toNat ≤ sizeLine ∧ Q (.d (.str (Txt.mul a j))) st
  | _, _ => False
def rMul : R2 := fun x y H Q => rI CMul (fun i j => .int (i * j)) x y H Q ∨ rRep x y H Q ∨ ∃ a n, x = .str a ∧ y = .int n ∧ -(2 ^ 63) ≤ n ∧ n < 2 ^ 63 ∧ a.length * n.toNat ≤ sizeLine ∧ Q (.str (Txt.mul a n)) H
theorem op_mulR {X : Cx} : OpR X (binaryOp .Mult) rMul := op_mul.or (op_rep.or op_mul_str)
theorem ImAll.rep {K : Frag} {W : Addr → Prop} {H : Hp} {vs : List V} {ds : List PyData} (h : ImAll K W H vs ds) : ∀ n : Nat, ImAll K W H (List.replicate n vs).flatten (List.replicate n ds).flatten
  | 0 => .nil
  | n + 1 => by
    rw [List.replicate_succ, List.replicate_succ, List.flatten_cons, List.flatten_cons]
    exact h.append (ImAll.rep h n)
theorem d2_mul {K : Frag} : D2 K rMul oMul := by
  intro Z v u s t Qd Q ok r1 r2 w k
  unfold oMul at w
  split at w
  · rename_i i j e1 e2
    exact .inl ⟨i, j, r1.int e1, r2.int e2, w.1, k.now ok (.int _) w.2⟩
  · rename_i a j e1 e2
    obtain ⟨p, xs, rfl, h1, q1⟩ := r1.list ok e1
    obtain ⟨w1, w2, w3, w4⟩ := w
    exact .inr (.inl ⟨p, j, xs, rfl, r2.int e2, h1, w1, w2, by rw [q1.length]; exact w3, k.newL ok (q1.rep _) w4⟩)
  · rename_i a j e1 e2
    obtain ⟨w1, w2, w3, w4⟩ := w
    exact .inr (.inr ⟨a, j, r1.str e1, r2.int e2, w1, w2, w3, k.now ok (.str _) w4⟩)
  · exact w.elim
def oII (C : Int → Int → Prop) (g : Int → Int → PyData) (x y : Sl) (st : Sto) (Q : DK) : Prop := match vw st x, vw st y with
  | some (.int i), some (.int j) => C i j ∧ Q (.d (g i j)) st
  | _, _ => False
theorem d2_ii {K : Frag} {C : Int → Int → Prop} {g : Int → Int → Int} : D2 K (rI C fun i j => .int (g i j)) (oII C fun i j => .int (g i j)) := by
  intro Z v u s t Qd Q ok r1 r2 w k
  unfold oII at w
  split at w
  · rename_i i j e1 e2
    exact ⟨i, j, r1.int e1, r2.int e2, w.1, k.now ok (.int _) w.2⟩
  · exact w.elim
def oFdiv := oII CDivW fun i j => .int (i / j)
def oMod := oII (fun _ j => 0 < j) fun i j => .int (i % j)
def oPow := oII CPow fun i j => .int (i ^ j.toNat)
def oShl := oII CPow fun i j => .int (i * 2 ^ j.toNat)
def oShr := oII (fun _ j => 0 ≤ j) fun i j => .int (i / 2 ^ j.toNat)
theorem d2_fdiv {K : Frag} : D2 K (rI CDivW fun i j => .int (i / j)) oFdiv := d2_ii
theorem d2_mod {K : Frag} : D2 K (rI (fun _ j => 0 < j) fun i j => .int (i % j)) oMod := d2_ii
theorem d2_pow {K : Frag} : D2 K (rI CPow fun i j => .int (i ^ j.toNat)) oPow := d2_ii
def oBool (g : Int → Int → Bool) (x y : Sl) (st : Sto) (Q : DK) : Prop := match vw st x, vw st y with
  | some (.int i), some (.int j) => Q (.d (.bool (g i j))) st
  | _, _ => False
theorem d2_bool {K : Frag} {g : Int → Int → Bool} : D2 K (rI0 fun i j => .bl (g i j)) (oBool g) := by
  intro Z v u s t Qd Q ok r1 r2 w k
  unfold oBool at w
  split at w
  · rename_i i j e1 e2
    exact ⟨i, j, r1.int e1, r2.int e2, k.now ok (.bl _) w⟩
  · exact w.elim
def flatEq (d : PyData) : Prop := SeqAt.shaped d = true
theorem shaped_dict {d : PyData} (h : SeqAt.shaped d = true) : d.hasDict = false := PyData.hasDict_of_canLay d (SeqAt.canLay_of_shaped h)
def oEq (x y : Sl) (st : Sto) (Q : DK) : Prop := match vw st x, vw st y with
  | some a, some b => SeqAt.shaped a = true ∧ SeqAt.shaped b = true ∧ Q (.d (.bool (PyData.eqv a b))) st
  | _, _ => False
def oNe (x y : Sl) (st : Sto) (Q : DK) : Prop := match vw st x, vw st y with
  | some a, some b => SeqAt.shaped a = true ∧ SeqAt.shaped b = true ∧ Q (.d (.bool (!PyData.eqv a b))) st
  | _, _ => False
theorem d2_eq {K : Frag} : D2 K (rEqD K) oEq := by
  intro Z v u s t Qd Q ok r1 r2 w k
  unfold oEq at w
  split at w
  · rename_i a b e1 e2
    exact ⟨a, b, r1.dp ok e1 (shaped_dict w.1), r2.dp ok e2 (shaped_dict w.2.1), w.1, w.2.1, k.now ok (.bl _) w.2.2⟩
  · exact w.elim
theorem d2_ne {K : Frag} : D2 K (rNeD K) oNe := by
  intro Z v u s t Qd Q ok r1 r2 w k
  unfold oNe at w
  split at w
  · rename_i a b e1 e2
    exact ⟨a, b, r1.dp ok e1 (shaped_dict w.1), r2.dp ok e2 (shaped_dict w.2.1), w.1, w.2.1, k.now ok (.bl _) w.2.2⟩
  · exact w.elim
def noneS (st : Sto) : Sl → Option Bool
  | .d .none => some true
  | .d _ => some false
  | .o _ => some false
  | .r u => some (decide (u = .non))
  | .l _ _ _ => none
  | .f _ => some false
theorem noneS_ok {K : Frag} {Z : Zs} {v : V} {s : Sl} {b : Bool} (r : Rp K Z v s) (e : noneS Z.st s = some b) : decide (v = .non) = b := by
  cases s with
  | d x =>
    have r' : Z.Im K v x := r
    cases r' <;> simp_all [noneS]
  | o h => obtain ⟨a, c, rfl, _⟩ := r; simp_all [noneS]
  | r u => cases r; simpa [noneS] using e
  | l _ _ _ => simp [noneS] at e
  | f ns => obtain ⟨a, rfl, _⟩ := r; simp_all [noneS]
def oIsN (x y : Sl) (st : Sto) (Q : DK) : Prop := match noneS st x, y with
  | some b, .d .none => Q (.d (.bool b)) st
  | _, _ => False
def oNotN (x y : Sl) (st : Sto) (Q : DK) : Prop := match noneS st x, y with
  | some b, .d .none => Q (.d (.bool (!b))) st
  | _, _ => False
theorem d2_isN {K : Frag} : D2 K (fun x y H Q => y = .non ∧ Q (.bl (decide (x = .non))) H) oIsN := by
  intro Z v u s t Qd Q ok r1 r2 w k
  unfold oIsN at w
  split at w
  · rename_i b e1
    refine ⟨r2.non rfl, ?_⟩
    rw [noneS_ok r1 e1]
    exact k.now ok (.bl _) w
  · exact w.elim
theorem d2_notN {K : Frag} : D2 K (fun x y H Q => y = .non ∧ Q (.bl (!decide (x = .non))) H) oNotN := by
  intro Z v u s t Qd Q ok r1 r2 w k
  unfold oNotN at w
  split at w
  · rename_i b e1
    refine ⟨r2.non rfl, ?_⟩
    rw [noneS_ok r1 e1]
    exact k.now ok (.bl _) w
  · exact w.elim
end Pz
set_option maxRecDepth 100000
namespace Pz
open PySem PySem.Spec PyProof.Rows L2 TL
variable [TabC]
structure FnG (P : Program) (w : World) (K : Frag) (mg : Str → Option Value) (base : Heap) (CX : CXT) (k : Nat) (f : Addr) (fd : FuncData) (ps : List Str) (sp : Sp) : Prop where
  len : ∀ vs H Q E, sp vs H Q E → vs.length = ps.length
  go : ∀ A : Around, A.guards = some [] → Room k A → ∀ outer s H, Env0 P w K mg base A outer s H → ∀ args us, BindsTo s fd args (ps.zip us) → ∀ vs Q E, Vals vs us → sp vs H Q E → codeAny (model P w) A (.call (.ref f) args) (CR CX outer P w H s Q E) s
section
variable {P : Program} {w : World} {K : Frag} {mg : Str → Option Value} {base : Heap} {CX : CXT} {j k : Nat} {f : Addr} {fd : FuncData} {ps N : List Str} {sp sp' : Sp}
theorem FnG.mono (F : FnG P w K mg base CX j f fd ps sp) (h : j ≤ k) : FnG P w K mg base CX k f fd ps sp :=
  ⟨F.len, fun A hg hr => F.go A hg (hr.mono h)⟩
theorem FnG.imp (F : FnG P w K mg base CX k f fd ps sp) (h : ∀ vs H Q E, sp' vs H Q E → sp vs H Q E) : FnG P w K mg base CX k f fd ps sp' :=
  ⟨fun vs H Q E q => F.len vs H Q E (h _ _ _ _ q), fun A hg hr outer s H e args us b vs Q E v q => F.go A hg hr outer s H e args us b vs Q E v (h _ _ _ _ q)⟩
theorem FnG.of {x qual : Str} {st : Stmt} (F : Fun K x qual st f fd) (S : FnScope N ps (defScope st)) (len : ∀ vs H Q E, sp vs H Q E → vs.length = ps.length)
    (body : ∀ (cdv : Value) (A : Around) (outer : List Env) (s : Shared) (H : Hp) (vs : List V) (Q : VK) (E : XK), A.guards = some [] → Room k (A.deeper (envOfC qual (defScope st) s.heap.objs.size f cdv)) → sp vs H Q E →
      ∃ t, PSs (cxOf CX P w K mg base N qual (defScope st) f cdv A outer s H E) (defBody st) t ∧ t { nx := fun _ H' => Q .non H', rt := Q } (start N vs) H) :
    FnG P w K mg base CX (k + 1) f fd ps sp := by
  obtain ⟨oc, od, kV, doc, pm, an, cdv, ct, osl, rfl, lk, hcd⟩ := F.ex
  refine ⟨len, fun A hg hr outer s H e0 args us hb vs Q E rv q => ?_⟩
  have inK : K.In s.heap := e0.mod.kin.keeps fun b o e => (e0.bs b o e).1
  have par : ∀ y ∈ ps.zip us, (defScope st).names.lookup y.1 = some .local ∨ ((defScope st).names.lookup y.1 = some .cell ∧ ((cellsFrom (s.heap.objs.size + 1) (defScope st).names []).lookup y.1).isSome = true) := by
    rintro ⟨n, u⟩ hy
    rcases S.par n (List.of_mem_zip hy).1 with z | z
    · exact .inl z
    · exact .inr ⟨z, PySem.W.cellsFrom_some _ _ _ (.inl z)⟩
  apply codeAny_call_function hr.depth (inK _ _ lk) rfl S.co S.gen rfl (PySem.W.codeRec_of inK hcd) (hb _ _ _ _ _)
  apply wpAny_newFunctionEnv_cells S.kind par
  rintro env rfl s1 x
  refine ⟨(e0.mod.nolimit.keeps fun b o e => (e0.bs b o e).1).keeps x.toInCall.keep, codeAny_func ?_⟩
  obtain ⟨t, ht, hq⟩ := body cdv A outer s H vs Q E hg (hr.deeper _) q
  have I := inv_start (CX := CX) (E := E) S hr.hd e0 (len _ _ _ _ q) rv x
  refine wpAny_mono (ht.run [] s1 (start N vs) H _ I hq) ?_ fun e s' z => z
  rintro (_ | _ | _ | u) s' z
  · obtain ⟨σ', H', J, z⟩ := z
    exact ⟨.non, H', J.os, J.bare, J.base, J.hok, rfl, z⟩
  · obtain ⟨_, _, _, z⟩ := z
    exact z.elim
  · obtain ⟨_, _, _, z⟩ := z
    exact z.elim
  · obtain ⟨v, σ', H', J, r, z⟩ := z
    exact ⟨v, H', J.os, J.bare, J.base, J.hok, r, z⟩
end
abbrev DXF := Str → List (Str × PyData) → Sto → Prop
abbrev DSp := List Sl → Sto → DK → DXF → Prop
def KXF (K : Frag) (Z : Zs) (Ed : DXF) (E : XK) : Prop := ∀ (Z' : Zs) (c : Value) (x : Str) (d : Option Addr) (fs : List (Str × PyData)), Le Z Z' → Ok K Z' → XdOk K Z' fs d → ClsV K x c → Ed x fs Z'.st → E c d Z'.H
def toSp (K : Frag) (n : Nat) (dsp : DSp) : Sp := fun vs H Q E => ∃ (Z : Zs) (ss : List Sl) (Qd : DK) (Ed : DXF), Z.H = H ∧ Ok K Z ∧ RpAll K Z vs ss ∧ ss.length = n ∧ dsp ss Z.st Qd Ed ∧ KOk K Z Qd Q ∧ KXF K Z Ed E
abbrev FnD (P : Program) (w : World) (K : Frag) (mg : Str → Option Value) (base : Heap) (CX : CXT) (k : Nat) (f : Addr) (fd : FuncData) (ps : List Str) (dsp : DSp) : Prop := FnG P w K mg base CX k f fd ps (toSp K ps.length dsp)
def SlIn (n : Nat) : Sl → Prop
  | .o h => h < n
  | _ => True
def Cl (n : Nat) : Ct → Prop
  | .ins _ fs => ∀ p ∈ fs, SlIn n p.2
  | .lsS xs => ∀ x ∈ xs, SlIn n x
  | _ => True
def Ret (n : Nat) (s : Sl) (st : Sto) (Q : DK) : Prop := (∀ c ∈ st.take n, Cl n c) ∧ match s with
  | .o h => if h < n then Q (.o h) (st.take n) else match st[h]? with
    | some c => c.live ∧ Cl n c ∧ Q (.o n) (st.take n ++ [c])
    | none => False
  | s => Q s (st.take n)
section
variable {K : Frag} {Z Z' : Zs}
theorem Stay.less {W W' : Addr → Prop} {H : Hp} (h : ∀ a, W' a → W a) : Stay W W' H H := ⟨fun _ _ e _ _ => e, fun _ _ _ n _ w => n (h _ w)⟩
theorem rp_less {n : Nat} (hF : Z'.F = Z.F) (hH : Z'.H = Z.H) (hW : ∀ a, Z'.W a → Z.W a) (hφ : ∀ i, i < n → Z'.φ[i]? = Z.φ[i]?) (hst : ∀ i, i < n → Z'.st[i]? = Z.st[i]?) {v : V} {s : Sl} (hs : SlIn n s) (r : Rp K Z v s) : Rp K Z' v s := by
  cases s with
  | d x =>
    have q := Im.tr (Stay.less hW) (show Pz.Im K Z.W Z.H v x from r)
    rw [← hH] at q
    exact q
  | o h =>
    obtain ⟨a, c, e, e1, e2, e3⟩ := r
    exact ⟨a, c, e, by rw [hφ h hs]; exact e1, by rw [hst h hs]; exact e2, e3⟩
  | r u => exact r
  | l _ _ _ => exact ⟨r.1, by rw [hH]; exact r.2.trans (Stay.less hW)⟩
  | f ns =>
    obtain ⟨a, e, q⟩ := r
    have q' := q.tr (Stay.less hW)
    rw [← hH] at q'
    exact ⟨a, e, q'⟩
theorem rpAll_less {n : Nat} (hF : Z'.F = Z.F) (hH : Z'.H = Z.H) (hW : ∀ a, Z'.W a → Z.W a) (hφ : ∀ i, i < n → Z'.φ[i]? = Z.φ[i]?) (hst : ∀ i, i < n → Z'.st[i]? = Z.st[i]?) : ∀ {vs : List V} {ss : List Sl}, (∀ s ∈ ss, SlIn n s) → RpAll K Z vs ss → RpAll K Z' vs ss
  | _, _, _, .nil => .nil
  | _, _, hs, .cons p r => .cons (rp_less hF hH hW hφ hst (hs _ (by simp)) p) (rpAll_less hF hH hW hφ hst (fun s m => hs s (by simp [m])) r)
theorem ct_less {n : Nat} (hF : Z'.F = Z.F) (hH : Z'.H = Z.H) (hW : ∀ a, Z'.W a → Z.W a) (hφ : ∀ i, i < n → Z'.φ[i]? = Z.φ[i]?) (hst : ∀ i, i < n → Z'.st[i]? = Z.st[i]?) {a : Addr} : ∀ {c : Ct}, Cl n c → CtOk K Z a c → CtOk K Z' a c
  | .lst ds, _, h => by
    obtain ⟨vs, e, q⟩ := h
    have q' := ImAll.tr (Stay.less hW) (show Pz.ImAll K Z.W Z.H vs ds from q)
    rw [← hH] at e q'
    exact ⟨vs, e, q'⟩
  | .lsS xs, hc, h => by
    obtain ⟨us, e, q⟩ := h
    rw [← hH] at e
    exact ⟨us, e, rpAll_less hF hH hW hφ hst hc q⟩
  | .dK kvs, _, h => by
    obtain ⟨vs, e, e2, q⟩ := h
    have q' := ImAll.tr (Stay.less hW) (show Pz.ImAll K Z.W Z.H _ _ from q)
    rw [← hH] at e q'
    exact ⟨vs, e, e2, q'⟩
  | .dT kvs, _, h => by
    obtain ⟨vs, e, e2, q⟩ := h
    have q' := ImAll.tr (Stay.less hW) (show Pz.ImAll K Z.W Z.H _ _ from q)
    rw [← hH] at e q'
    exact ⟨vs, e, e2, q'⟩
  | .ins C fs, hc, h => by
    obtain ⟨dx, us, e, e2, q⟩ := h
    rw [← hH] at e
    refine ⟨dx, us, e, e2, rpAll_less hF hH hW hφ hst (fun s m => ?_) q⟩
    obtain ⟨p, hp, rfl⟩ := List.mem_map.mp m
    exact hc p hp
  | .exc c fs, _, h => by
    obtain ⟨cv, d, hc, e, q⟩ := h
    have s : Stay Z.W Z'.W Z.H Z'.H := by rw [hH]; exact Stay.less hW
    rw [← hH] at e
    exact ⟨cv, d, hc, e, q.tr s⟩
  | .dead, _, h => by
    show Z'.H a ≠ none
    rw [hH]
    exact h
theorem take_get {α : Type} {l : List α} {n i : Nat} (h : i < n) : (l.take n)[i]? = l[i]? := by
  rw [List.getElem?_take, if_pos h]
theorem ret_ok {Z0 : Zs} {n : Nat} {v : V} {s : Sl} {Qd : DK} {Q : VK} (hn : Z0.st.length = n) (l : Le Z0 Z) (ok : Ok K Z) (r : Rp K Z v s) (h : Ret n s Z.st Qd) (k : KOk K Z0 Qd Q) : Q v Z.H := by
  obtain ⟨hc, h⟩ := h
  obtain ⟨ψ, eφ, hψ⟩ := l.pre
  have n0 : Z0.φ.length = n := by rw [← l.len]; exact hn
  have nle : n ≤ Z.φ.length := by rw [eφ, List.length_append]; omega
  have nle2 : n ≤ Z.st.length := by rw [← ok.len]; exact nle
  have tφ : Z.φ.take n = Z0.φ := by rw [eφ, ← n0, List.take_left]
  have wless : ∀ {φ' : List Addr} {st' : Sto}, (∀ i c, φ'[i]? = some c → ∀ ct : Ct, st'[i]? = some ct → ct.live → Z.O c) → ∀ a, (Zs.mk φ' st' Z.H Z.F).W a → Z.W a := fun {φ' st'} hh a w => by
    rcases w with ⟨i, c, e1, e2, e3⟩ | w
    · exact .inl (hh i a e1 c e2 e3)
    · exact .inr w
  have plain : ∀ s', SlIn n s' → Rp K Z v s' → Qd s' (Z.st.take n) → Q v Z.H := fun s' hs r' q => by
    have hW : ∀ a, (Zs.mk (Z.φ.take n) (Z.st.take n) Z.H Z.F).W a → Z.W a := wless fun i a e1 c e2 e3 => by
      have hi : i < n := by
        have := (List.getElem?_eq_some_iff.mp e1).1
        rw [List.length_take] at this
        omega
      rw [take_get hi] at e1 e2
      exact ⟨i, c, e1, e2, e3⟩
    refine k (Zs.mk (Z.φ.take n) (Z.st.take n) Z.H Z.F) v s' ⟨⟨[], by rw [List.append_nil]; exact tφ, fun _ h => by cases h⟩, l.len, fun i c e => ?_, l.frm, l.fgn, l.dom⟩ ⟨?_, ?_, fun i a c e1 e2 => ?_, ok.fo, fun a m => ok.fd a (List.mem_of_mem_take m), ok.tb.less hW⟩ ?_ q
    · obtain ⟨c', q1, q2⟩ := l.liv i c e
      have hi : i < n := by rw [← hn]; exact (List.getElem?_eq_some_iff.mp e).1
      exact ⟨c', by show (Z.st.take n)[i]? = _; rw [take_get hi]; exact q1, q2⟩
    · show (Z.φ.take n).length = (Z.st.take n).length
      rw [List.length_take, List.length_take, ok.len]
    · exact ok.nd.sublist (List.take_sublist _ _)
    · have hi : i < n := by
        have := (List.getElem?_eq_some_iff.mp (show (Z.φ.take n)[i]? = some a from e1)).1
        rw [List.length_take] at this
        omega
      have e2' : (Z.st.take n)[i]? = some c := e2
      have m : c ∈ Z.st.take n := List.mem_of_getElem? e2'
      have e1' : (Z.φ.take n)[i]? = some a := e1
      rw [take_get hi] at e1' e2'
      exact ct_less (Z := Z) (Z' := ⟨Z.φ.take n, Z.st.take n, Z.H, Z.F⟩) (n := n) rfl rfl hW (fun j hj => take_get (l := Z.φ) hj) (fun j hj => take_get (l := Z.st) hj) (hc c m) (ok.ct i a c e1' e2')
    · exact rp_less (Z := Z) (Z' := ⟨Z.φ.take n, Z.st.take n, Z.H, Z.F⟩) (n := n) rfl rfl hW (fun j hj => take_get (l := Z.φ) hj) (fun j hj => take_get (l := Z.st) hj) hs r'
  cases s with
  | d x => exact plain (.d x) trivial r h
  | r u => exact plain (.r u) trivial r h
  | l a b c => exact plain (.l a b c) trivial r h
  | f ns => exact plain (.f ns) trivial r h
  | o hh =>
    simp only at h
    split at h
    · rename_i hlt
      exact plain (.o hh) hlt r h
    · rename_i hlt
      split at h
      · rename_i c ec
        obtain ⟨lv, hcl, q⟩ := h
        obtain ⟨a, c', ev, e1, e2, e3⟩ := id r
        rw [ec] at e2
        cases e2
        have ha : a ∈ ψ := by
          rw [eφ, List.getElem?_append_right (by omega)] at e1
          exact List.mem_of_getElem? e1
        have ht : (Z.st.take n).length = n := by rw [List.length_take]; omega
        have htφ : (Z.φ.take n).length = n := by rw [List.length_take]; omega
        have gφ : ∀ i b, (Z.φ.take n ++ [a])[i]? = some b → (i < n ∧ Z.φ[i]? = some b) ∨ (i = n ∧ b = a) := fun i b e => by
          by_cases hi : i < n
          · rw [List.getElem?_append_left (by omega), take_get hi] at e
            exact .inl ⟨hi, e⟩
          · rw [List.getElem?_append_right (by omega), htφ] at e
            have : i - n = 0 := by
              have := (List.getElem?_eq_some_iff.mp e).1
              simp at this
              omega
            rw [this] at e
            simp at e
            exact .inr ⟨by omega, e.symm⟩
        have gs1 : ∀ i, i < n → (Z.st.take n ++ [c])[i]? = Z.st[i]? := fun i hi => by rw [List.getElem?_append_left (by omega), take_get hi]
        have gs2 : (Z.st.take n ++ [c])[n]? = some c := by rw [List.getElem?_append_right (by omega), ht]; simp
        have hW : ∀ b, (Zs.mk (Z.φ.take n ++ [a]) (Z.st.take n ++ [c]) Z.H Z.F).W b → Z.W b := wless fun i b q1 c2 q2 q3 => by
          rcases gφ i b q1 with ⟨hi, q1⟩ | ⟨rfl, rfl⟩
          · rw [gs1 i hi] at q2
            exact ⟨i, c2, q1, q2, q3⟩
          · exact ⟨hh, c, e1, ec, e3⟩
        have p1 : ∀ i, i < n → (Z.φ.take n ++ [a])[i]? = Z.φ[i]? := fun i hi => by rw [List.getElem?_append_left (by omega), take_get hi]
        refine k (Zs.mk (Z.φ.take n ++ [a]) (Z.st.take n ++ [c]) Z.H Z.F) v (.o n) ⟨⟨[a], by rw [tφ], fun b hb => ?_⟩, l.len, fun i c2 e => ?_, l.frm, l.fgn, l.dom⟩ ⟨?_, ?_, fun i b c2 q1 q2 => ?_, ok.fo, fun b m => ?_, ok.tb.less hW⟩ ?_ q
        · have : b = a := by simpa using hb
          subst this
          exact hψ b ha
        · obtain ⟨c3, q1, q2⟩ := l.liv i c2 e
          have hi : i < n := by rw [← hn]; exact (List.getElem?_eq_some_iff.mp e).1
          exact ⟨c3, (gs1 i hi).trans q1, q2⟩
        · show (Z.φ.take n ++ [a]).length = (Z.st.take n ++ [c]).length
          rw [List.length_append, List.length_append, ht, htφ]
          rfl
        · have nd := ok.nd
          rw [eφ] at nd
          show (Z.φ.take n ++ [a]).Nodup
          rw [tφ]
          exact nd.sublist (List.Sublist.append (List.Sublist.refl _) (List.singleton_sublist.mpr ha))
        · have q1' : (Z.φ.take n ++ [a])[i]? = some b := q1
          have q2' : (Z.st.take n ++ [c])[i]? = some c2 := q2
          rcases gφ i b q1' with ⟨hi, q1'⟩ | ⟨rfl, rfl⟩
          · have m : c2 ∈ Z.st.take n := by
              rw [List.getElem?_append_left (by omega)] at q2'
              exact List.mem_of_getElem? q2'
            rw [gs1 i hi] at q2'
            exact ct_less (Z := Z) (Z' := ⟨Z.φ.take n ++ [a], Z.st.take n ++ [c], Z.H, Z.F⟩) (n := n) rfl rfl hW p1 gs1 (hc c2 m) (ok.ct i b c2 q1' q2')
          · rw [gs2] at q2'
            cases q2'
            exact ct_less (Z := Z) (Z' := ⟨Z.φ.take i ++ [b], Z.st.take i ++ [c], Z.H, Z.F⟩) (n := i) rfl rfl hW p1 gs1 hcl (ok.ct hh b c e1 ec)
        · rcases List.mem_append.mp m with m | m
          · exact ok.fd b (List.mem_of_mem_take m)
          · have : b = a := by simpa using m
            subst this
            exact ok.fd b (List.mem_of_getElem? e1)
        · exact ⟨a, c, ev, by show (Z.φ.take n ++ [a])[n]? = _; rw [List.getElem?_append_right (by omega), htφ]; simp, gs2, e3⟩
      · exact h.elim
end
theorem RpAll.get {K : Frag} {Z : Zs} : ∀ {vs : List V} {ss : List Sl} {i : Nat} {s : Sl}, RpAll K Z vs ss → ss[i]? = some s → ∃ v, vs[i]? = some v ∧ Rp K Z v s
  | _, _, 0, _, .cons q _, e => by simp at e; subst e; exact ⟨_, rfl, q⟩
  | _, _, i + 1, s, .cons _ r, e => by simpa using RpAll.get (i := i) (s := s) r (by simpa using e)
def startS (N : List Str) (ss : List Sl) : Sls := ss.map some ++ List.replicate (N.length - ss.length) none
theorem startS_ok {K : Frag} {Z : Zs} {N : List Str} {vs : List V} {ss : List Sl} (r : RpAll K Z vs ss) : SlOk K Z (L2.start N vs) (startS N ss) := by
  have hl := r.length
  refine ⟨?_, fun i s e => ?_⟩
  · unfold L2.start startS
    simp [hl]
  · unfold startS at e
    have hi : i < ss.length := by
      rcases Nat.lt_or_ge i ss.length with z | z
      · exact z
      · rw [List.getElem?_append_right (by simpa using z), List.getElem?_replicate] at e
        split at e <;> cases e
    rw [List.getElem?_append_left (by simpa using hi), List.getElem?_map] at e
    cases q : ss[i]? with
    | none => rw [q] at e; cases e
    | some t =>
      rw [q] at e
      cases e
      obtain ⟨v, hv, rv⟩ := r.get q
      refine ⟨v, ?_, rv⟩
      unfold L2.start
      rw [List.getElem?_append_left (by rw [List.length_map, hl]; exact hi), List.getElem?_map, hv]
      rfl
theorem EndsOk.ret {K : Frag} {Z0 Zc : Zs} {n0 : Nat} {Qd : DK} {Q : VK} (hn : Z0.st.length = n0) (k : KOk K Z0 Qd Q) :
    EndsOk K W0 Z0 Zc ⟨fun _ st => Ret n0 (.d .none) st Qd, fun s st => Ret n0 s st Qd, fun _ _ _ _ => False, fun _ _ => False, fun _ _ => False⟩ { nx := fun _ H' => Q .non H', rt := Q } where
  nx := fun Z sl σ l _ ok so h => ret_ok hn l ok (v := .non) (s := .d .none) Im.non h k
  rt := fun Z v s l ok r h => ret_ok hn l ok r h k
  ex := fun _ _ _ _ _ _ _ _ _ _ _ _ _ h => h
  bk := fun _ _ _ _ _ _ _ h => h
  ct := fun _ _ _ _ _ _ _ h => h
section
variable {P : Program} {w : World} {K : Frag} {mg : Str → Option Value} {base : Heap} {k : Nat} {f : Addr} {fd : FuncData} {ps N : List Str} {dsp : DSp} {x qual : Str} {st : Stmt}
theorem FnD.of0 (F : Fun K x qual st f fd) (S : FnScope N ps (defScope st)) (n0 : Nat) (τ : DS)
    (hb : ∀ (cdv : Value) (A : Around) (outer : List Env) (s : Shared) (H : Hp) (E : XK) (Z0 : Zs), A.guards = some [] → Room k (A.deeper (envOfC qual (defScope st) s.heap.objs.size f cdv)) → Z0.st.length = n0 →
      DSs (cxOf CX0 P w K mg base N qual (defScope st) f cdv A outer s H E).nox W0 Z0 (defBody st) τ)
    (hw : ∀ (ss : List Sl) (cs : Sto) (Qd : DK) (Ed : DXF), dsp ss cs Qd Ed → ss.length = ps.length → cs.length = n0 ∧ τ ⟨fun _ st => Ret n0 (.d .none) st Qd, fun s st => Ret n0 s st Qd, fun _ _ _ _ => False, fun _ _ => False, fun _ _ => False⟩ (startS N ss) cs) :
    FnD P w K mg base CX0 (k + 1) f fd ps dsp := by
  refine FnG.of F S (fun vs H Q E ⟨Z, ss, Qd, Ed, _, _, ra, hl, _⟩ => ra.length.trans hl) fun cdv A outer s H vs Q E hg hr ⟨Z, ss, Qd, Ed, e, ok, ra, hl, hd, kQ, kE⟩ => ?_
  obtain ⟨hn, q⟩ := hw ss Z.st Qd Ed hd hl
  refine ⟨_, (hb cdv A outer s H E Z hg hr hn).run.nox, ?_⟩
  exact ⟨Z, startS N ss, _, e, .refl ok, ok, startS_ok ra, q, .ret hn kQ⟩
end
def hsOf : List Sl → List Nat
  | [] => []
  | .o h :: r => h :: (hsOf r).filter fun j => j != h
  | .d _ :: r => hsOf r
  | .r _ :: r => hsOf r
  | .l _ _ _ :: r => hsOf r
  | .f _ :: r => hsOf r
def locS (hs : List Nat) : Sl → Sl
  | .o h => .o (hs.idxOf h)
  | s => s
def gloS (hs : List Nat) (n : Nat) : Sl → Sl
  | .o j => .o (if j < hs.length then hs.getD j 0 else n + (j - hs.length))
  | s => s
def getAll (st : Sto) : List Nat → Option (List Ct)
  | [] => some []
  | h :: hs => match st[h]?, getAll st hs with
    | some c, some cs => some (c :: cs)
    | _, _ => none
def putAll (st : Sto) : List Nat → List Ct → Sto
  | h :: hs, c :: cs => putAll (st.set h c) hs cs
  | [], cs => st ++ cs
  | _, [] => st
theorem getAll_get {st : Sto} : ∀ {hs : List Nat} {cs : List Ct}, getAll st hs = some cs → cs.length = hs.length ∧ ∀ (i h : Nat), hs[i]? = some h → ∃ c, st[h]? = some c ∧ cs[i]? = some c
  | [], cs, e => by
    simp only [getAll, Option.some.injEq] at e
    subst e
    exact ⟨rfl, fun i h z => by simp at z⟩
  | h :: hs, cs, e => by
    simp only [getAll] at e
    split at e
    · rename_i c cs' e1 e2
      simp only [Option.some.injEq] at e
      subst e
      obtain ⟨l, g⟩ := getAll_get e2
      refine ⟨by simp [l], fun i h' z => ?_⟩
      cases i with
      | zero => simp at z; subst z; exact ⟨c, e1, rfl⟩
      | succ i => obtain ⟨c', q1, q2⟩ := g i h' (by simpa using z); exact ⟨c', q1, by simpa using q2⟩
    · cases e
theorem hsOf_nd : ∀ ss : List Sl, (hsOf ss).Nodup
  | [] => .nil
  | .o h :: r => by
    unfold hsOf
    refine List.nodup_cons.mpr ⟨fun m => ?_, (hsOf_nd r).sublist List.filter_sublist⟩
    have := (List.mem_filter.mp m).2
    simp at this
  | .d _ :: r => hsOf_nd r
  | .r _ :: r => hsOf_nd r
  | .l _ _ _ :: r => hsOf_nd r
  | .f _ :: r => hsOf_nd r
theorem hsOf_mem : ∀ {ss : List Sl} {h : Nat}, Sl.o h ∈ ss → h ∈ hsOf ss
  | .o h :: r, j, m => by
    unfold hsOf
    rcases List.mem_cons.mp m with e | m
    · cases e; exact List.mem_cons_self
    · by_cases z : j = h
      · subst z; exact List.mem_cons_self
      · exact List.mem_cons_of_mem _ (List.mem_filter.mpr ⟨hsOf_mem m, by simpa using z⟩)
  | .d _ :: r, j, m => by
    rcases List.mem_cons.mp m with e | m
    · cases e
    · exact hsOf_mem (ss := r) m
  | .r _ :: r, j, m => by
    rcases List.mem_cons.mp m with e | m
    · cases e
    · exact hsOf_mem (ss := r) m
  | .l _ _ _ :: r, j, m => by
    rcases List.mem_cons.mp m with e | m
    · cases e
    · exact hsOf_mem (ss := r) m
  | .f _ :: r, j, m => by
    rcases List.mem_cons.mp m with e | m
    · cases e
    · exact hsOf_mem (ss := r) m
  | [], _, m => by cases m
theorem putAll_spec : ∀ {hs : List Nat} {st : Sto} {cs : List Ct}, hs.Nodup → (∀ h ∈ hs, h < st.length) → hs.length ≤ cs.length →
    (putAll st hs cs).length = st.length + (cs.length - hs.length) ∧ (∀ (i h : Nat), hs[i]? = some h → (putAll st hs cs)[h]? = cs[i]?) ∧ (∀ h : Nat, h < st.length → h ∉ hs → (putAll st hs cs)[h]? = st[h]?) ∧ ∀ j : Nat, (putAll st hs cs)[st.length + j]? = cs[hs.length + j]?
  | [], st, cs, _, _, _ => by
    refine ⟨by simp [putAll], fun i h e => by simp at e, fun h hh _ => ?_, fun j => ?_⟩
    · simp only [putAll]; rw [List.getElem?_append_left hh]
    · simp only [putAll, List.length_nil, Nat.zero_add]; rw [List.getElem?_append_right (by omega), Nat.add_sub_cancel_left]
  | h :: hs, st, [], _, _, z => by simp at z
  | h :: hs, st, c :: cs, nd, hb, hl => by
    have nd' := List.nodup_cons.mp nd
    have hb' : ∀ x ∈ hs, x < (st.set h c).length := fun x m => by rw [List.length_set]; exact hb x (List.mem_cons_of_mem _ m)
    obtain ⟨a1, a2, a3, a4⟩ := putAll_spec (hs := hs) (st := st.set h c) (cs := cs) nd'.2 hb' (by simpa using hl)
    have hh : h < st.length := hb h List.mem_cons_self
    refine ⟨by simp only [putAll]; rw [a1, List.length_set]; simp, fun i x e => ?_, fun x hx nm => ?_, fun j => ?_⟩
    · cases i with
      | zero =>
        simp at e
        subst e
        simp only [putAll]
        rw [a3 h (by rw [List.length_set]; exact hh) nd'.1, List.getElem?_set_self hh]
        rfl
      | succ i =>
        simp only [putAll]
        rw [a2 i x (by simpa using e)]
        simp
    · simp only [putAll]
      have hne : h ≠ x := fun z => nm (z ▸ List.mem_cons_self)
      rw [a3 x (by rw [List.length_set]; exact hx) (fun m => nm (List.mem_cons_of_mem _ m)), List.getElem?_set_ne hne]
    · simp only [putAll]
      have := a4 j
      rw [List.length_set] at this
      rw [this]
      simp [Nat.add_right_comm]
def locCall (dsp : DSp) (ss : List Sl) (st : Sto) (Q : DK) (Ed : DXF) : Prop := match getAll st (hsOf ss) with
  | some cs => (∀ c ∈ cs, Cl 0 c) ∧ dsp (ss.map (locS (hsOf ss))) cs (fun s cs' => (∀ c ∈ cs', Cl 0 c) ∧ Q (gloS (hsOf ss) st.length s) (putAll st (hsOf ss) cs')) fun c fs cs' => (∀ c ∈ cs', Cl 0 c) ∧ Ed c fs (putAll st (hsOf ss) cs')
  | none => False
def Zs.loc (Z : Zs) (hs : List Nat) (cs : Sto) : Zs := ⟨hs.map fun h => Z.φ.getD h 0, cs, Z.H, fun a => Z.W a ∧ a ∉ hs.map fun h => Z.φ.getD h 0⟩
def Zs.back (Z Z' : Zs) (hs : List Nat) : Zs := ⟨Z.φ ++ Z'.φ.drop hs.length, putAll Z.st hs Z'.st, Z'.H, Z.F⟩
section
variable {K : Frag} {Z : Zs} {hs : List Nat} {cs : Sto}
theorem rp_handle {v : V} {h : Nat} (r : Rp K Z v (.o h)) : h < Z.φ.length := by
  obtain ⟨a, c, _, e, _⟩ := r
  exact (List.getElem?_eq_some_iff.mp e).1
theorem loc_at (hb : ∀ h ∈ hs, h < Z.φ.length) {i h : Nat} (e : hs[i]? = some h) : (Z.loc hs cs).φ[i]? = Z.φ[h]? := by
  have hh := hb h (List.mem_of_getElem? e)
  simp only [Zs.loc, List.getElem?_map, e, Option.map_some]
  rw [List.getElem?_eq_getElem hh, List.getD_eq_getElem?_getD, List.getElem?_eq_getElem hh]
  rfl
theorem loc_inv (hb : ∀ h ∈ hs, h < Z.φ.length) {i : Nat} {a : Addr} (e : (Z.loc hs cs).φ[i]? = some a) : ∃ h, hs[i]? = some h ∧ Z.φ[h]? = some a := by
  have hi : i < hs.length := by
    have := (List.getElem?_eq_some_iff.mp e).1
    simpa [Zs.loc] using this
  have q : hs[i]? = some hs[i] := List.getElem?_eq_getElem hi
  exact ⟨hs[i], q, (loc_at hb q).symm.trans e⟩
theorem loc_in (ok : Ok K Z) (hg : getAll Z.st hs = some cs) (hb : ∀ h ∈ hs, h < Z.φ.length) {a : Addr} (m : a ∈ (Z.loc hs cs).φ) (w : Z.W a) : (Z.loc hs cs).O a := by
  obtain ⟨i, hi, e⟩ := List.getElem_of_mem m
  have e1 : (Z.loc hs cs).φ[i]? = some a := by rw [List.getElem?_eq_getElem hi, e]
  obtain ⟨h, q1, q2⟩ := loc_inv hb e1
  obtain ⟨c, p1, p2⟩ := (getAll_get hg).2 i h q1
  rcases w with ⟨j, c', r1, r2, r3⟩ | w
  · have lt1 := (List.getElem?_eq_some_iff.mp q2).1
    have lt2 := (List.getElem?_eq_some_iff.mp r1).1
    rw [List.getElem?_eq_getElem lt1] at q2
    rw [List.getElem?_eq_getElem lt2] at r1
    have z : h = j := (List.getElem_inj ok.nd).mp ((Option.some.inj q2).trans (Option.some.inj r1).symm)
    subst z
    rw [p1] at r2
    cases r2
    exact ⟨i, c, e1, p2, r3⟩
  · exact absurd w (ok.fd a (List.mem_of_getElem? q2))
theorem loc_W (ok : Ok K Z) (hg : getAll Z.st hs = some cs) (hb : ∀ h ∈ hs, h < Z.φ.length) : (Z.loc hs cs).W = Z.W := by
  funext a
  refine propext ⟨fun w => ?_, fun w => ?_⟩
  · rcases w with ⟨i, c, e1, e2, e3⟩ | w
    · obtain ⟨h, q1, q2⟩ := loc_inv hb e1
      obtain ⟨c', p1, p2⟩ := (getAll_get hg).2 i h q1
      rw [show (Z.loc hs cs).st = cs from rfl, p2] at e2
      cases e2
      exact .inl ⟨h, _, q2, p1, e3⟩
    · exact w.1
  · by_cases m : a ∈ (Z.loc hs cs).φ
    · exact .inl (loc_in ok hg hb m w)
    · exact .inr ⟨w, m⟩
theorem loc_Ok (ok : Ok K Z) (hg : getAll Z.st hs = some cs) (hb : ∀ h ∈ hs, h < Z.φ.length) (nd : hs.Nodup) (hc : ∀ c ∈ cs, Cl 0 c) : Ok K (Z.loc hs cs) where
  len := by
    show (hs.map _).length = cs.length
    rw [List.length_map, (getAll_get hg).1]
  nd := by
    refine List.pairwise_iff_getElem.mpr fun i j hi hj lt e => ?_
    have hi' : i < hs.length := by simpa [Zs.loc] using hi
    have hj' : j < hs.length := by simpa [Zs.loc] using hj
    have e1 := loc_at (cs := cs) hb (List.getElem?_eq_getElem hi')
    have e2 := loc_at (cs := cs) hb (List.getElem?_eq_getElem hj')
    rw [List.getElem?_eq_getElem hi, List.getElem?_eq_getElem (hb _ (List.getElem_mem hi'))] at e1
    rw [List.getElem?_eq_getElem hj, List.getElem?_eq_getElem (hb _ (List.getElem_mem hj'))] at e2
    have e3 : hs[i] = hs[j] := (List.getElem_inj ok.nd).mp (by rw [← Option.some.inj e1, ← Option.some.inj e2, e])
    have e4 : i = j := (List.getElem_inj nd).mp e3
    omega
  ct := fun i a c e1 e2 => by
    obtain ⟨h, q1, q2⟩ := loc_inv hb e1
    obtain ⟨c', p1, p2⟩ := (getAll_get hg).2 i h q1
    have e2' : cs[i]? = some c := e2
    rw [p2] at e2'
    obtain rfl : c' = c := Option.some.inj e2'
    have hcl := hc c' (List.mem_of_getElem? p2)
    have q := ok.ct h a c' q2 p1
    cases c' with
    | lst ds => obtain ⟨vs, z1, z2⟩ := q; exact ⟨vs, z1, by rw [Zs.ImAll, loc_W ok hg hb]; exact z2⟩
    | lsS xs =>
      obtain ⟨us, z1, z3⟩ := q
      refine ⟨us, z1, ?_⟩
      have all : ∀ {vs : List V} {ss : List Sl}, (∀ s ∈ ss, SlIn 0 s) → RpAll K Z vs ss → RpAll K (Z.loc hs cs) vs ss := by
        intro vs ss hss r
        induction r with
        | nil => exact .nil
        | @cons v vs s ss p r ih =>
          refine .cons ?_ (ih fun x m => hss x (List.mem_cons_of_mem _ m))
          have hz := hss s List.mem_cons_self
          cases s with
          | d x => show Pz.Im K (Z.loc hs cs).W _ _ _; rw [loc_W ok hg hb]; exact p
          | o h => exact absurd hz (Nat.not_lt_zero _)
          | r u => exact p
          | l _ _ _ => exact ⟨p.1, by rw [loc_W ok hg hb]; exact p.2⟩
          | f ns => obtain ⟨a, z, y⟩ := p; exact ⟨a, z, by rw [loc_W ok hg hb]; exact y⟩
      exact all hcl z3
    | dK kvs => obtain ⟨vs, z1, z2, z3⟩ := q; exact ⟨vs, z1, z2, by rw [Zs.ImAll, loc_W ok hg hb]; exact z3⟩
    | dT kvs => obtain ⟨vs, z1, z2, z3⟩ := q; exact ⟨vs, z1, z2, by rw [Zs.ImAll, loc_W ok hg hb]; exact z3⟩
    | ins C fs =>
      obtain ⟨dx, us, z1, z2, z3⟩ := q
      refine ⟨dx, us, z1, z2, ?_⟩
      have all : ∀ {vs : List V} {ss : List Sl}, (∀ s ∈ ss, SlIn 0 s) → RpAll K Z vs ss → RpAll K (Z.loc hs cs) vs ss := by
        intro vs ss hss r
        induction r with
        | nil => exact .nil
        | @cons v vs s ss p r ih =>
          refine .cons ?_ (ih fun x m => hss x (List.mem_cons_of_mem _ m))
          have hz := hss s List.mem_cons_self
          cases s with
          | d x => show Pz.Im K (Z.loc hs cs).W _ _ _; rw [loc_W ok hg hb]; exact p
          | o h => exact absurd hz (Nat.not_lt_zero _)
          | r u => exact p
          | l _ _ _ => exact ⟨p.1, by rw [loc_W ok hg hb]; exact p.2⟩
          | f ns => obtain ⟨a, z, y⟩ := p; exact ⟨a, z, by rw [loc_W ok hg hb]; exact y⟩
      refine all (fun s m => ?_) z3
      obtain ⟨p, hp, rfl⟩ := List.mem_map.mp m
      exact hcl p hp
    | exc c fs =>
      obtain ⟨cv, d, hc, z1, z2⟩ := q
      have s : Stay Z.W (Z.loc hs cs).W Z.H (Z.loc hs cs).H := by rw [loc_W ok hg hb]; exact Stay.less fun _ w => w
      exact ⟨cv, d, hc, z1, z2.tr s⟩
    | dead => exact q
  fo := fun a w => by
    have w' : Z.W a := w.1
    rcases w' with w' | w'
    · exact ok.has w'.mem
    · exact ok.fo a w'
  fd := fun a m w => w.2 m
  tb := ok.tb.less fun a w => by rw [← loc_W ok hg hb]; exact w
theorem loc_rp (ok : Ok K Z) (hg : getAll Z.st hs = some cs) (hb : ∀ h ∈ hs, h < Z.φ.length) {v : V} {s : Sl} (hm : ∀ h, s = .o h → h ∈ hs) (r : Rp K Z v s) : Rp K (Z.loc hs cs) v (locS hs s) := by
  cases s with
  | d x => show Pz.Im K (Z.loc hs cs).W _ _ _; rw [loc_W ok hg hb]; exact r
  | o h =>
    obtain ⟨a, c, e, e1, e2, e3⟩ := r
    have m := hm h rfl
    have q : hs[hs.idxOf h]? = some h := by
      rw [List.getElem?_eq_getElem (List.idxOf_lt_length_of_mem m)]
      exact congrArg some (List.getElem_idxOf _)
    obtain ⟨c', p1, p2⟩ := (getAll_get hg).2 _ h q
    rw [e2] at p1
    cases p1
    exact ⟨a, c, e, (loc_at hb q).trans e1, p2, e3⟩
  | r u => exact r
  | l _ _ _ => exact ⟨r.1, by rw [loc_W ok hg hb]; exact r.2⟩
  | f ns => obtain ⟨a, z, y⟩ := r; exact ⟨a, z, by rw [loc_W ok hg hb]; exact y⟩
end
section
variable {K : Frag} {Z Z' : Zs} {hs : List Nat} {cs : Sto}
theorem back_pre (l : Le (Z.loc hs cs) Z') : ∃ ψ, Z'.φ = (Z.loc hs cs).φ ++ ψ ∧ Z'.φ.drop hs.length = ψ ∧ ∀ a ∈ ψ, Z.H a = none := by
  obtain ⟨ψ, e, hn⟩ := l.pre
  refine ⟨ψ, e, ?_, hn⟩
  rw [e]
  have : (Z.loc hs cs).φ.length = hs.length := by simp [Zs.loc]
  rw [← this, List.drop_left]
theorem back_le (ok : Ok K Z) (hg : getAll Z.st hs = some cs) (hb : ∀ h ∈ hs, h < Z.φ.length) (nd : hs.Nodup) (l : Le (Z.loc hs cs) Z') (ok' : Ok K Z') : Le Z (Z.back Z' hs) := by
  obtain ⟨ψ, e, ed, hn⟩ := back_pre l
  have hb2 : ∀ h ∈ hs, h < Z.st.length := fun h m => by rw [← ok.len]; exact hb h m
  have hl : hs.length ≤ Z'.st.length := by
    rw [← ok'.len, e, List.length_append]
    simp [Zs.loc]
  obtain ⟨s1, s2, s3, s4⟩ := putAll_spec nd hb2 hl
  refine ⟨⟨ψ, by show Z.φ ++ _ = _; rw [ed], hn⟩, ok.len.symm, fun h c ec => ?_, fun a o ea na nt => ?_, rfl, fun a o ea => l.dom a o ea⟩
  · have hh : h < Z.st.length := (List.getElem?_eq_some_iff.mp ec).1
    show ∃ c', (putAll Z.st hs Z'.st)[h]? = some c' ∧ _
    by_cases m : h ∈ hs
    · obtain ⟨i, hi, ei⟩ := List.getElem_of_mem m
      have q : hs[i]? = some h := by rw [List.getElem?_eq_getElem hi, ei]
      obtain ⟨c', p1, p2⟩ := (getAll_get hg).2 i h q
      rw [ec] at p1
      cases p1
      obtain ⟨c2, r1, r2⟩ := l.liv i c p2
      exact ⟨c2, by rw [s2 i h q]; exact r1, r2⟩
    · exact ⟨c, by rw [s3 h hh m]; exact ec, Iff.rfl⟩
  · refine l.frm a o ea (fun w => ?_) nt
    obtain ⟨i, c, e1, e2, e3⟩ := w
    obtain ⟨h, q1, q2⟩ := loc_inv hb e1
    obtain ⟨c', p1, p2⟩ := (getAll_get hg).2 i h q1
    have e2' : cs[i]? = some c := e2
    rw [p2] at e2'
    cases e2'
    exact na ⟨h, _, q2, p1, e3⟩
theorem back_at (ok : Ok K Z) (hg : getAll Z.st hs = some cs) (hb : ∀ h ∈ hs, h < Z.φ.length) (nd : hs.Nodup) (l : Le (Z.loc hs cs) Z') (ok' : Ok K Z') {h : Nat} {a : Addr} {c : Ct} (e1 : (Z.back Z' hs).φ[h]? = some a) (e2 : (Z.back Z' hs).st[h]? = some c) :
    (h ∉ hs ∧ Z.φ[h]? = some a ∧ Z.st[h]? = some c) ∨ ∃ i : Nat, Z'.φ[i]? = some a ∧ Z'.st[i]? = some c := by
  obtain ⟨ψ, e, ed, hn⟩ := back_pre l
  have hb2 : ∀ h ∈ hs, h < Z.st.length := fun h m => by rw [← ok.len]; exact hb h m
  have lφ : (Z.loc hs cs).φ.length = hs.length := by simp [Zs.loc]
  have hl : hs.length ≤ Z'.st.length := by
    rw [← ok'.len, e, List.length_append, lφ]
    omega
  obtain ⟨s1, s2, s3, s4⟩ := putAll_spec nd hb2 hl
  have e1' : (Z.φ ++ ψ)[h]? = some a := by rw [← ed]; exact e1
  have e2' : (putAll Z.st hs Z'.st)[h]? = some c := e2
  by_cases hh : h < Z.φ.length
  · rw [List.getElem?_append_left hh] at e1'
    by_cases m : h ∈ hs
    · obtain ⟨i, hi, ei⟩ := List.getElem_of_mem m
      have q : hs[i]? = some h := by rw [List.getElem?_eq_getElem hi, ei]
      refine .inr ⟨i, ?_, by rw [← s2 i h q]; exact e2'⟩
      rw [e, List.getElem?_append_left (by rw [lφ]; exact hi), loc_at hb q]
      exact e1'
    · exact .inl ⟨m, e1', by rw [← s3 h (by rw [← ok.len]; exact hh) m]; exact e2'⟩
  · rw [List.getElem?_append_right (by omega)] at e1'
    refine .inr ⟨hs.length + (h - Z.φ.length), ?_, ?_⟩
    · rw [e, List.getElem?_append_right (by rw [lφ]; omega), lφ, Nat.add_sub_cancel_left]
      exact e1'
    · rw [← s4 (h - Z.φ.length), ← ok.len]
      rw [show Z.φ.length + (h - Z.φ.length) = h by omega]
      exact e2'
theorem back_W (ok : Ok K Z) (hg : getAll Z.st hs = some cs) (hb : ∀ h ∈ hs, h < Z.φ.length) (nd : hs.Nodup) (l : Le (Z.loc hs cs) Z') (ok' : Ok K Z') (a : Addr) (w : (Z.back Z' hs).W a) : Z'.W a := by
  have notin : ∀ (h : Nat), h ∉ hs → Z.φ[h]? = some a → a ∉ (Z.loc hs cs).φ := fun h m q1 z => by
    obtain ⟨i, hi, e⟩ := List.getElem_of_mem z
    obtain ⟨h', r1, r2⟩ := loc_inv (cs := cs) hb (show (Z.loc hs cs).φ[i]? = some a by rw [List.getElem?_eq_getElem hi, e])
    have lt1 := (List.getElem?_eq_some_iff.mp q1).1
    have lt2 := (List.getElem?_eq_some_iff.mp r2).1
    rw [List.getElem?_eq_getElem lt1] at q1
    rw [List.getElem?_eq_getElem lt2] at r2
    have z : h = h' := (List.getElem_inj ok.nd).mp ((Option.some.inj q1).trans (Option.some.inj r2).symm)
    exact m (z ▸ List.mem_of_getElem? r1)
  rcases w with ⟨h, c, e1, e2, e3⟩ | w
  · rcases back_at ok hg hb nd l ok' e1 e2 with ⟨m, q1, q2⟩ | ⟨i, q1, q2⟩
    · refine .inr ?_
      rw [l.fgn]
      exact ⟨.inl ⟨h, c, q1, q2, e3⟩, notin h m q1⟩
    · exact .inl ⟨i, c, q1, q2, e3⟩
  · refine .inr ?_
    rw [l.fgn]
    refine ⟨.inr w, fun z => ?_⟩
    have z' : a ∈ (Z.loc hs cs).φ := z
    obtain ⟨i, hi, e⟩ := List.getElem_of_mem z'
    obtain ⟨h', r1, r2⟩ := loc_inv (cs := cs) hb (show (Z.loc hs cs).φ[i]? = some a by rw [List.getElem?_eq_getElem hi, e])
    exact ok.fd a (List.mem_of_getElem? r2) w
theorem back_rp (ok : Ok K Z) (hg : getAll Z.st hs = some cs) (hb : ∀ h ∈ hs, h < Z.φ.length) (nd : hs.Nodup) (l : Le (Z.loc hs cs) Z') (ok' : Ok K Z') {v : V} {s : Sl} (r : Rp K Z' v s) : Rp K (Z.back Z' hs) v (gloS hs Z.st.length s) := by
  have hW := back_W ok hg hb nd l ok'
  cases s with
  | d x => exact Im.tr (Stay.less hW) (show Pz.Im K Z'.W Z'.H v x from r)
  | r u => exact r
  | l _ _ _ => exact ⟨r.1, r.2.trans (Stay.less hW)⟩
  | f ns => obtain ⟨a, z, y⟩ := r; exact ⟨a, z, y.tr (Stay.less hW)⟩
  | o j =>
    obtain ⟨a, c, ev, e1, e2, e3⟩ := r
    obtain ⟨ψ, e, ed, hn⟩ := back_pre l
    have hb2 : ∀ h ∈ hs, h < Z.st.length := fun h m => by rw [← ok.len]; exact hb h m
    have lφ : (Z.loc hs cs).φ.length = hs.length := by simp [Zs.loc]
    have hl : hs.length ≤ Z'.st.length := by
      rw [← ok'.len, e, List.length_append, lφ]
      omega
    obtain ⟨s1, s2, s3, s4⟩ := putAll_spec nd hb2 hl
    by_cases hj : j < hs.length
    · have q : hs[j]? = some (hs.getD j 0) := by
        rw [List.getD_eq_getElem?_getD, List.getElem?_eq_getElem hj]
        rfl
      refine ⟨a, c, ev, ?_, ?_, e3⟩
      · simp only [if_pos hj]
        show (Z.φ ++ _)[_]? = _
        rw [List.getElem?_append_left (hb _ (List.mem_of_getElem? q)), ← loc_at (cs := cs) hb q]
        rw [e, List.getElem?_append_left (by rw [lφ]; exact hj)] at e1
        exact e1
      · simp only [if_pos hj]
        show (putAll Z.st hs Z'.st)[_]? = _
        rw [s2 j _ q]
        exact e2
    · refine ⟨a, c, ev, ?_, ?_, e3⟩
      · simp only [if_neg hj]
        show (Z.φ ++ Z'.φ.drop hs.length)[_]? = _
        rw [ed, List.getElem?_append_right (by rw [ok.len]; omega), ok.len, Nat.add_sub_cancel_left]
        rw [e, List.getElem?_append_right (by rw [lφ]; omega), lφ] at e1
        exact e1
      · simp only [if_neg hj]
        show (putAll Z.st hs Z'.st)[_]? = _
        rw [s4]
        rw [show hs.length + (j - hs.length) = j by omega]
        exact e2
end
section
variable {K : Frag} {Z Z' : Zs} {hs : List Nat} {cs : Sto}
theorem cl_tr (hW : ∀ a, Z'.W a → Z.W a) (hH : Z'.H = Z.H) {a : Addr} : ∀ {c : Ct}, Cl 0 c → CtOk K Z a c → CtOk K Z' a c
  | .lst ds, _, h => by
    obtain ⟨vs, e, q⟩ := h
    have q' := ImAll.tr (Stay.less hW) (show Pz.ImAll K Z.W Z.H vs ds from q)
    rw [← hH] at e q'
    exact ⟨vs, e, q'⟩
  | .lsS xs, hc, h => by
    obtain ⟨us, e, q⟩ := h
    have all : ∀ {vs : List V} {ss : List Sl}, (∀ s ∈ ss, SlIn 0 s) → RpAll K Z vs ss → RpAll K Z' vs ss := by
      intro vs ss hss r
      induction r with
      | nil => exact .nil
      | @cons v vs s ss p r ih =>
        refine .cons ?_ (ih fun x m => hss x (List.mem_cons_of_mem _ m))
        have hz := hss s List.mem_cons_self
        cases s with
        | d x => show Pz.Im K Z'.W Z'.H _ _; rw [hH]; exact Im.tr (Stay.less hW) (show Pz.Im K Z.W Z.H v x from p)
        | o h => exact absurd hz (Nat.not_lt_zero _)
        | r u => exact p
        | l _ _ _ => exact ⟨p.1, by rw [hH]; exact p.2.trans (Stay.less hW)⟩
        | f ns => obtain ⟨a, z, y⟩ := p; exact ⟨a, z, by rw [hH]; exact y.tr (Stay.less hW)⟩
    rw [← hH] at e
    exact ⟨us, e, all hc q⟩
  | .dK kvs, _, h => by
    obtain ⟨vs, e, e2, q⟩ := h
    have q' := ImAll.tr (Stay.less hW) (show Pz.ImAll K Z.W Z.H _ _ from q)
    rw [← hH] at e q'
    exact ⟨vs, e, e2, q'⟩
  | .dT kvs, _, h => by
    obtain ⟨vs, e, e2, q⟩ := h
    have q' := ImAll.tr (Stay.less hW) (show Pz.ImAll K Z.W Z.H _ _ from q)
    rw [← hH] at e q'
    exact ⟨vs, e, e2, q'⟩
  | .ins C fs, hc, h => by
    obtain ⟨dx, us, e, e2, q⟩ := h
    have all : ∀ {vs : List V} {ss : List Sl}, (∀ s ∈ ss, SlIn 0 s) → RpAll K Z vs ss → RpAll K Z' vs ss := by
      intro vs ss hss r
      induction r with
      | nil => exact .nil
      | @cons v vs s ss p r ih =>
        refine .cons ?_ (ih fun x m => hss x (List.mem_cons_of_mem _ m))
        have hz := hss s List.mem_cons_self
        cases s with
        | d x => show Pz.Im K Z'.W Z'.H _ _; rw [hH]; exact Im.tr (Stay.less hW) (show Pz.Im K Z.W Z.H v x from p)
        | o h => exact absurd hz (Nat.not_lt_zero _)
        | r u => exact p
        | l _ _ _ => exact ⟨p.1, by rw [hH]; exact p.2.trans (Stay.less hW)⟩
        | f ns => obtain ⟨a, z, y⟩ := p; exact ⟨a, z, by rw [hH]; exact y.tr (Stay.less hW)⟩
    rw [← hH] at e
    refine ⟨dx, us, e, e2, all (fun s m => ?_) q⟩
    obtain ⟨p, hp, rfl⟩ := List.mem_map.mp m
    exact hc p hp
  | .exc c fs, _, h => by
    obtain ⟨cv, d, hc, e, q⟩ := h
    have s : Stay Z.W Z'.W Z.H Z'.H := by rw [hH]; exact Stay.less hW
    rw [← hH] at e
    exact ⟨cv, d, hc, e, q.tr s⟩
  | .dead, _, h => by
    show Z'.H a ≠ none
    rw [hH]
    exact h
theorem back_Ok (ok : Ok K Z) (hg : getAll Z.st hs = some cs) (hb : ∀ h ∈ hs, h < Z.φ.length) (nd : hs.Nodup) (l : Le (Z.loc hs cs) Z') (ok' : Ok K Z') (hc : ∀ c ∈ Z'.st, Cl 0 c) : Ok K (Z.back Z' hs) := by
  obtain ⟨ψ, e, ed, hn⟩ := back_pre l
  have hb2 : ∀ h ∈ hs, h < Z.st.length := fun h m => by rw [← ok.len]; exact hb h m
  have lφ : (Z.loc hs cs).φ.length = hs.length := by simp [Zs.loc]
  have hl : hs.length ≤ Z'.st.length := by
    rw [← ok'.len, e, List.length_append, lφ]
    omega
  obtain ⟨s1, s2, s3, s4⟩ := putAll_spec nd hb2 hl
  have ll := back_le ok hg hb nd l ok'
  refine ⟨?_, ?_, fun h a c e1 e2 => ?_, fun a w => ?_, fun a m w => ?_, ok'.tb.less (back_W ok hg hb nd l ok')⟩
  · show (Z.φ ++ _).length = (putAll Z.st hs Z'.st).length
    rw [ed, s1, List.length_append, ok.len, ← ok'.len, e, List.length_append, lφ]
    omega
  · show (Z.φ ++ _).Nodup
    rw [ed]
    refine List.nodup_append.mpr ⟨ok.nd, ?_, fun a ha b hb' z => ?_⟩
    · have := ok'.nd
      rw [e] at this
      exact (List.nodup_append.mp this).2.1
    · subst z
      exact ok.fresh (hn a hb') ha
  · rcases back_at ok hg hb nd l ok' e1 e2 with ⟨m, q1, q2⟩ | ⟨i, q1, q2⟩
    · refine ctok_st ll.stay (fun r => r.tr ll) (fun o eo nt => ?_) (fun o eo => l.dom a o eo) (ok.ct h a c q1 q2)
      refine l.frm a o eo (fun w => ?_) nt
      obtain ⟨j, c', p1, p2, p3⟩ := w
      obtain ⟨h', r1, r2⟩ := loc_inv hb p1
      have lt1 := (List.getElem?_eq_some_iff.mp q1).1
      have lt2 := (List.getElem?_eq_some_iff.mp r2).1
      rw [List.getElem?_eq_getElem lt1] at q1
      rw [List.getElem?_eq_getElem lt2] at r2
      have z : h = h' := (List.getElem_inj ok.nd).mp (by rw [Option.some.inj q1, Option.some.inj r2])
      exact m (z ▸ List.mem_of_getElem? r1)
    · exact cl_tr (Z := Z') (Z' := Z.back Z' hs) (back_W ok hg hb nd l ok') rfl (hc c (List.mem_of_getElem? q2)) (ok'.ct i a c q1 q2)
  · obtain ⟨o, eo⟩ := ok.fo a w
    exact l.dom a o eo
  · rcases List.mem_append.mp (show a ∈ Z.φ ++ Z'.φ.drop hs.length from m) with m | m
    · exact ok.fd a m w
    · rw [ed] at m
      obtain ⟨o, eo⟩ := ok.fo a w
      rw [hn a m] at eo
      cases eo
theorem mem_o : ∀ {vs : List V} {ss : List Sl}, RpAll K Z vs ss → ∀ h, Sl.o h ∈ ss → h < Z.φ.length
  | _, _, .nil, _, m => by cases m
  | _, _, .cons p r, h, m => by
    rcases List.mem_cons.mp m with e | m
    · subst e; exact rp_handle p
    · exact mem_o r h m
theorem hsOf_in : ∀ {ss : List Sl} {h : Nat}, h ∈ hsOf ss → Sl.o h ∈ ss
  | .o j :: r, h, m => by
    unfold hsOf at m
    rcases List.mem_cons.mp m with e | m
    · subst e; exact List.mem_cons_self
    · exact List.mem_cons_of_mem _ (hsOf_in (List.mem_filter.mp m).1)
  | .d _ :: r, h, m => List.mem_cons_of_mem _ (hsOf_in (ss := r) m)
  | .r _ :: r, h, m => List.mem_cons_of_mem _ (hsOf_in (ss := r) m)
  | .l _ _ _ :: r, h, m => List.mem_cons_of_mem _ (hsOf_in (ss := r) m)
  | .f _ :: r, h, m => List.mem_cons_of_mem _ (hsOf_in (ss := r) m)
  | [], _, m => by cases m
theorem xd_back (ok : Ok K Z) (hg : getAll Z.st hs = some cs) (hb : ∀ h ∈ hs, h < Z.φ.length) (nd : hs.Nodup) (l : Le (Z.loc hs cs) Z') (ok' : Ok K Z') {fs : List (Str × PyData)} : ∀ {d : Option Addr}, XdOk K Z' fs d → XdOk K (Z.back Z' hs) fs d
  | none, h => h
  | some a, h => by
    obtain ⟨nw, us, e, e2, q⟩ := h
    exact ⟨fun w => nw (back_W ok hg hb nd l ok' _ w), us, e, e2, ImAll.tr (Stay.less (back_W ok hg hb nd l ok')) (show Pz.ImAll K Z'.W Z'.H _ _ from q)⟩
theorem loc_sp {vs : List V} {ss : List Sl} {dsp : DSp} {Qd : DK} {Q : VK} {Ed : DXF} {E : XK} {n : Nat} (ok : Ok K Z) (ra : RpAll K Z vs ss) (hn : ss.length = n) (h : locCall dsp ss Z.st Qd Ed) (k : KOk K Z Qd Q) (kx : KXF K Z Ed E) : toSp K n dsp vs Z.H Q E := by
  unfold locCall at h
  split at h
  · rename_i cs hg
    obtain ⟨hc, h⟩ := h
    have hb : ∀ h ∈ hsOf ss, h < Z.φ.length := fun h m => mem_o ra h (hsOf_in m)
    have nd := hsOf_nd ss
    refine ⟨Z.loc (hsOf ss) cs, ss.map (locS (hsOf ss)), _, _, rfl, loc_Ok ok hg hb nd hc, ?_, by rw [List.length_map]; exact hn, h, fun Z' v s l ok' r q => ?_, fun Z' c xn d fs l ok' x hcv q => ?_⟩
    · have all : ∀ {vs : List V} {ss' : List Sl}, (∀ h, Sl.o h ∈ ss' → h ∈ hsOf ss) → RpAll K Z vs ss' → RpAll K (Z.loc (hsOf ss) cs) vs (ss'.map (locS (hsOf ss))) := by
        intro vs ss' hm r
        induction r with
        | nil => exact .nil
        | cons p r ih => exact .cons (loc_rp ok hg hb (fun h e => hm h (by rw [← e]; exact List.mem_cons_self)) p) (ih fun h m => hm h (List.mem_cons_of_mem _ m))
      exact all (fun h m => hsOf_mem m) ra
    · exact k (Z.back Z' (hsOf ss)) v _ (back_le ok hg hb nd l ok') (back_Ok ok hg hb nd l ok' q.1) (back_rp ok hg hb nd l ok' r) q.2
    · exact kx (Z.back Z' (hsOf ss)) c xn d fs (back_le ok hg hb nd l ok') (back_Ok ok hg hb nd l ok' q.1) (xd_back ok hg hb nd l ok' x) hcv q.2
  · exact h.elim
end
section
variable {X : Cx} {CX : CXT} {k : Nat} {f : Addr} {fd : FuncData} {ps : List Str} {sp : Sp} {E : XK} {x : Str} {p pos : Pos} {e : Expr} {es : List Expr} {t : TA}
theorem runG {pins : List (Addr × Obj)} {σ : L2.St} {H : Hp} {s : Shared} {Q : VK} {us : List Value} {kw : List (Str × Value)} {vs : List V} {ws : List Value} (F : FnG X.prog X.w X.K X.mg X.base CX k f fd ps sp) (hg : X.A.guards = some []) (hr : Room k X.A) (hb : BindsTo s fd ⟨us, kw⟩ (ps.zip ws)) (hx : Passes CX X E)
    (I : L2.Inv X pins σ H s) (r : Vals vs ws) (h : sp vs H Q E) : wpAny (model X.prog X.w) X.A (call (.ref f) us kw) (EP X pins σ Q) X.xe s := by
  apply wpAny_call
  refine codeAny_mono (F.go X.A hg hr X.stack s H I.env0 ⟨us, kw⟩ ws hb vs Q E r h) ?_
  rintro (er | fl) s' q
  · exact hx pins σ H s er s' I q
  · rcases fl with _ | _ | _ | u
    · exact q.elim
    · exact q.elim
    · exact q.elim
    · exact I.after q
theorem pe_callG (F : FnG X.prog X.w X.K X.mg X.base CX k f fd ps sp) (hA : X.A.guards = some []) (hr : Room k X.A) (hg : Gl X x) (hm : X.mg x = some (.ref f)) (hk : PySem.W.keepIn X.K (.ref f) = true) (hb : Binds X.K fd ps []) (hx : Passes CX X E)
    (ha : PA X (e :: es) t) (hdb : (x == ("__debug__" : Str)) = false := by decide) (he : starEach (e :: es) X.env = (false, eval e X.env) :: starEach es X.env := by rfl) (hpl : (backTo pos (starEach es X.env)).any (·.1) = false := by rfl) :
    PE X (.Call (.Name x p) (e :: es) [] pos) (tCall sp [] E t) := by
  constructor
  intro pins s σ H Q I h
  refine wpAny_Call_Name_kw (ld_glob I hg hm (PySem.W.callWith_K (h₀ := X.base) I.ok.mod.kin hk (thn (ha.run pos pins s σ H _ I h) ?_) he hpl) hdb)
  rintro us s1 ⟨vs, H1, I1, r, q⟩
  rw [List.append_nil] at q
  have b := hb s1 us I1.kIn (by rw [List.append_nil, ← r.length]; exact F.len _ _ _ _ q)
  rw [List.append_nil] at b
  exact ⟨I1.kIn, runG F hA hr b hx I1 r q⟩
structure KwB (K : Frag) (fd : FuncData) (ps : List Str) (n : Nat) (ks : List Str) (g : ∀ {α : Type}, List α → List α → List α) : Prop where
  to : ∀ (s : Shared) (us ws : List Value), K.In s.heap → us.length = n → ws.length = ks.length → BindsTo s fd ⟨us, ks.zip ws⟩ (ps.zip (g us ws))
  rel : ∀ {vs : List V} {us : List Value} {zs : List V} {ws : List Value}, vs.length = n → zs.length = ks.length → Vals vs us → Vals zs ws → Vals (g vs zs) (g us ws)
variable {kws : List Keyword} {tk : TA} {n : Nat} {ks : List Str} {g : ∀ {α : Type}, List α → List α → List α}
def tCallW (n m : Nat) (sp : Sp) (g : ∀ {α : Type}, List α → List α → List α) (E : XK) (t tk : TA) : TE := fun σ H Q => t σ H fun vs H1 => tk σ H1 fun zs H2 => vs.length = n ∧ zs.length = m ∧ sp (g vs zs) H2 Q E
end
end Pz
set_option maxRecDepth 100000
namespace Pz
open PySem PySem.Spec PyProof.Rows L2 TL
variable [TabC]
section
variable {X : Cx} {E : WXs} {Z0 : Zs} {a b c e : Expr} {es : List Expr} {ta tb tc te : DE} {t : DA} {pos p : Pos} {x : Str}
def wNil : DA := fun _ _ st Q => Q [] st
def wCons (te : DE) (t : DA) : DA := fun Ed sl st Q => te Ed sl st fun x st => t Ed sl st fun xs st => Q (x :: xs) st
theorem da_nil : DAs X E [] wNil := ⟨paI pa_nil fun σ H Q ⟨Z, sl, Qd, Ed, h, ok, so, w, k, kx⟩ => by
  subst h
  exact k Z [] [] (.refl ok) ok .nil w⟩
theorem cons_ok {σ : L2.St} {H : Hp} {Q : List V → Hp → Prop} (h : upA X.K E (wCons te t) σ H Q) : tCons (upE X.K E te) (upA X.K E t) σ H Q := by
  obtain ⟨Z, sl, Qd, Ed, h, ok, so, w, k, kx⟩ := h
  refine ⟨Z, sl, _, Ed, h, ok, so, w, fun Z1 v s l1 ok1 r1 w1 => ?_, kx⟩
  refine ⟨Z1, sl, _, Ed, rfl, ok1, so.tr l1, w1, fun Z2 vs ss l2 ok2 r2 w2 => ?_, kx.le l1⟩
  exact k Z2 (v :: vs) (s :: ss) (l1.trans l2) ok2 (.cons (r1.tr l2) r2) w2
theorem da_cons (ha : DEx X E e te) (hr : DAs X E es t) (hs : starEach (e :: es) X.env = (false, eval e X.env) :: starEach es X.env := by rfl) : DAs X E (e :: es) (wCons te t) :=
  ⟨paI (pa_cons ha.run hr.run hs) fun _ _ _ h => cons_ok h⟩
structure DKs (X : Cx) (E : WXs) (ks : List Keyword) (τ : DA) : Prop where
  run : PK X ks (upA X.K E τ)
theorem dk_nil : DKs X E [] wNil := ⟨⟨fun po pins s σ H Q I h => pk_nil.run po pins s σ H Q I (by
  obtain ⟨Z, sl, Qd, Ed, h, ok, so, w, k, kx⟩ := h
  subst h
  exact k Z [] [] (.refl ok) ok .nil w)⟩⟩
theorem dk_cons {nm : Option Str} {kpos : Pos} {kws : List Keyword} (ha : DEx X E e te) (hr : DKs X E kws t) : DKs X E (⟨nm, e, kpos⟩ :: kws) (wCons te t) :=
  ⟨⟨fun po pins s σ H Q I h => (pk_cons ha.run hr.run).run po pins s σ H Q I (cons_ok h)⟩⟩
def wCall (dsp : DSp) (t : DA) : DE := fun Ed sl st Q => t Ed sl st fun ss st => locCall dsp ss st Q fun _ _ _ => False
variable {k n m : Nat} {f : Addr} {fd : FuncData} {ps ks : List Str} {dsp : DSp} {kws : List Keyword} {tk : DA}
theorem locCall_len {ss : List Sl} {st : Sto} {Q : DK} {Ed : DXF} (h : locCall dsp ss st Q Ed) (hl : ∀ ss cs Q Ed, dsp ss cs Q Ed → ss.length = n) : ss.length = n := by
  unfold locCall at h
  split at h
  · have := hl _ _ _ _ h.2
    simpa using this
  · exact h.elim
theorem de_call (F : FnD X.prog X.w X.K X.mg X.base CX0 k f fd ps dsp) (hA : X.A.guards = some []) (hr : Room k X.A) (hl : ∀ ss cs Q Ed, dsp ss cs Q Ed → ss.length = ps.length) (hg : Gl X x) (hm : X.mg x = some (.ref f)) (hk : PySem.W.keepIn X.K (.ref f) = true) (hb : Binds X.K fd ps [])
    (ha : DAs X E (e :: es) t) (hdb : (x == ("__debug__" : Str)) = false := by decide) (he : starEach (e :: es) X.env = (false, eval e X.env) :: starEach es X.env := by rfl) (hpl : (backTo pos (starEach es X.env)).any (·.1) = false := by rfl) :
    DEx X E (.Call (.Name x p) (e :: es) [] pos) (wCall dsp t) :=
  ⟨peI (pe_callG F hA hr hg hm hk hb pass0 ha.run hdb he hpl) fun σ H Q ⟨Z, sl, Qd, Ed, h, ok, so, w, kq, kx⟩ =>
    ⟨Z, sl, _, Ed, h, ok, so, w, fun Z1 vs ss l1 ok1 r1 w1 => by
      show toSp X.K ps.length dsp (vs ++ []) Z1.H Q E0
      rw [List.append_nil]
      exact loc_sp ok1 r1 (locCall_len w1 hl) w1 (kq.le l1) (fun _ _ _ _ _ _ _ _ _ z => z), kx⟩⟩
def wCallW (n m : Nat) (dsp : DSp) (g : ∀ {α : Type}, List α → List α → List α) (t tk : DA) : DE := fun Ed sl st Q => t Ed sl st fun ss st => tk Ed sl st fun zs st => ss.length = n ∧ zs.length = m ∧ locCall dsp (g ss zs) st Q fun _ _ _ => False
structure KwD (K : Frag) (fd : FuncData) (ps : List Str) (n : Nat) (ks : List Str) (g : ∀ {α : Type}, List α → List α → List α) : Prop where
  kb : KwB K fd ps n ks g
  rp : ∀ {Z : Zs} {vs zs : List V} {ss us : List Sl}, ss.length = n → us.length = ks.length → RpAll K Z vs ss → RpAll K Z zs us → RpAll K Z (g vs zs) (g ss us)
variable {g : ∀ {α : Type}, List α → List α → List α}
abbrev FA := List Sl → Sto → DK → Prop
def CallD (K : Frag) (r : List V → Hp → VK → Prop) (f : FA) : Prop := ∀ (Z : Zs) (vs : List V) (ss : List Sl) (Qd : DK) (Q : VK), Ok K Z → RpAll K Z vs ss → f ss Z.st Qd → KOk K Z Qd Q → r vs Z.H Q
def wApp (f : FA) (t : DA) : DE := fun Ed sl st Q => t Ed sl st fun ss st => f ss st Q
theorem app_ok {r : List V → Hp → VK → Prop} {f : FA} (hd : CallD X.K r f) {σ : L2.St} {H : Hp} {Q : VK} (h : upE X.K E (wApp f t) σ H Q) : tCB r (upA X.K E t) σ H Q := by
  obtain ⟨Z, sl, Qd, Ed, h, ok, so, w, kq, kx⟩ := h
  exact ⟨Z, sl, _, Ed, h, ok, so, w, fun Z1 vs ss l1 ok1 r1 w1 => hd Z1 vs ss Qd Q ok1 r1 w1 (kq.le l1), kx⟩
theorem de_callB {id : String} {r : List V → Hp → VK → Prop} {f : FA} (hd : CallD X.K r f) (hc : CallR X (.builtin id) r) (hg : Gl X x) (hm : X.mg x = none) (hv : bootBuiltins x = some (.builtin id)) (ha : DAs X E (e :: es) t) (hn : x ≠ "__name__" := by decide) (hdb : (x == ("__debug__" : Str)) = false := by decide)
    (he : starEach (e :: es) X.env = (false, eval e X.env) :: starEach es X.env := by rfl) (hpl : (backTo pos (starEach es X.env)).any (·.1) = false := by rfl) : DEx X E (.Call (.Name x p) (e :: es) [] pos) (wApp f t) :=
  ⟨peI (pe_callB hc hg hm hv ha.run hn hdb he hpl) fun _ _ _ h => app_ok hd h⟩
theorem de_callTy {id : String} {r : List V → Hp → VK → Prop} {f : FA} (hd : CallD X.K r f) (hc : CallR X (.type id) r) (hg : Gl X x) (hm : X.mg x = none) (hv : bootBuiltins x = some (.type id)) (ha : DAs X E (e :: es) t) (hn : x ≠ "__name__" := by decide) (hdb : (x == ("__debug__" : Str)) = false := by decide)
    (he : starEach (e :: es) X.env = (false, eval e X.env) :: starEach es X.env := by rfl) (hpl : (backTo pos (starEach es X.env)).any (·.1) = false := by rfl) : DEx X E (.Call (.Name x p) (e :: es) [] pos) (wApp f t) :=
  ⟨peI (pe_callTy hc hg hm hv ha.run hn hdb he hpl) fun _ _ _ h => app_ok hd h⟩
def dsOf : List Sl → Option (List PyData)
  | [] => some []
  | .d x :: r => match dsOf r with
    | some ds => some (x :: ds)
    | none => none
  | .o _ :: _ => none
  | .r _ :: _ => none
  | .l _ _ _ :: _ => none
  | .f _ :: _ => none
theorem dsOf_ok {K : Frag} {Z : Zs} : ∀ {vs : List V} {ss : List Sl} {ds : List PyData}, RpAll K Z vs ss → dsOf ss = some ds → Z.ImAll K vs ds
  | _, _, ds, .nil, e => by simp only [dsOf, Option.some.injEq] at e; subst e; exact .nil
  | _, _, ds, .cons (s := .d x) p r, e => by
    simp only [dsOf] at e
    split at e
    · rename_i ds' e'
      simp only [Option.some.injEq] at e
      subst e
      exact .cons p (dsOf_ok r e')
    · cases e
  | _, _, ds, .cons (s := .o h) p r, e => by simp [dsOf] at e
  | _, _, ds, .cons (s := .r _) p r, e => by simp [dsOf] at e
  | _, _, ds, .cons (s := .l _ _ _) p r, e => by simp [dsOf] at e
  | _, _, ds, .cons (s := .f h) p r, e => by simp [dsOf] at e
def wLst (t : DA) : DE := fun Ed sl st Q => t Ed sl st fun ss st => match dsOf ss with
  | some ds => ds.length ≤ sizeLine ∧ Q (.d (.list ds)) st
  | none => False
def wTup (t : DA) : DE := fun Ed sl st Q => t Ed sl st fun ss st => match dsOf ss with
  | some ds => ds.length ≤ sizeLine ∧ Q (.d (.tuple ds)) st
  | none => False
def wLstO (t : DA) : DE := fun Ed sl st Q => t Ed sl st fun ss st => match dsOf ss with
  | some ds => ds.length ≤ sizeLine ∧ Q (.o st.length) (st ++ [.lst ds])
  | none => False
theorem de_lst (h : DAs X E es t) : DEx X E (.List es pos) (wLst t) := ⟨peI (pe_lst h.run) fun σ H Q ⟨Z, sl, Qd, Ed, h, ok, so, w, kq, kx⟩ =>
  ⟨Z, sl, _, Ed, h, ok, so, w, fun Z1 vs ss l1 ok1 r1 w1 => by
    simp only at w1
    split at w1
    · rename_i ds e
      have q := dsOf_ok r1 e
      exact ⟨by rw [q.length]; exact w1.1, (kq.le l1).newL ok1 q w1.2⟩
    · exact w1.elim, kx⟩⟩
theorem de_tup {x1 : Nat} (h : DAs X E es t) : DEx X E (.Tuple es x1 pos) (wTup t) := ⟨peI (pe_tup h.run) fun σ H Q ⟨Z, sl, Qd, Ed, h, ok, so, w, kq, kx⟩ =>
  ⟨Z, sl, _, Ed, h, ok, so, w, fun Z1 vs ss l1 ok1 r1 w1 => by
    simp only at w1
    split at w1
    · rename_i ds e
      have q := dsOf_ok r1 e
      exact ⟨by rw [q.length]; exact w1.1, (kq.le l1).newT ok1 q w1.2⟩
    · exact w1.elim, kx⟩⟩
def Zs.own (Z : Zs) (p : Addr) (o : HO) (c : Ct) : Zs := ⟨Z.φ ++ [p], Z.st ++ [c], upd Z.H p o, Z.F⟩
theorem app1_get {α : Type} {l : List α} {y z : α} {i : Nat} (h : (l ++ [y])[i]? = some z) : l[i]? = some z ∨ (i = l.length ∧ z = y) := by
  by_cases hi : i < l.length
  · rw [List.getElem?_append_left hi] at h; exact .inl h
  · rw [List.getElem?_append_right (by omega)] at h
    have : i - l.length = 0 := by
      have := (List.getElem?_eq_some_iff.mp h).1
      simp at this
      omega
    rw [this] at h
    simp at h
    exact .inr ⟨by omega, h.symm⟩
section
variable {K : Frag} {Z : Zs} {q : Addr} {o : HO} {ct : Ct}
theorem Ok.leOwn (ok : Ok K Z) (n : Z.H q = none) : Le Z (Z.own q o ct) where
  pre := ⟨[q], rfl, fun a h => by have : a = q := by simpa using h
                                  subst this; exact n⟩
  len := ok.len.symm
  liv := fun h c e => ⟨c, by show (Z.st ++ [ct])[h]? = _; rw [List.getElem?_append_left (List.getElem?_eq_some_iff.mp e).1]; exact e, Iff.rfl⟩
  frm := fun a u e _ _ => upd_keep n e
  fgn := rfl
  dom := fun a u e => ⟨u, upd_keep n e⟩
theorem Ok.own (ok : Ok K Z) (n : Z.H q = none) (hc : CtOk K (Z.own q o ct) q ct) (ho : NotTbl o := by exact fun _ z => nomatch z) : Ok K (Z.own q o ct) where
  len := by show (Z.φ ++ [q]).length = (Z.st ++ [ct]).length; rw [List.length_append, List.length_append, ok.len]; rfl
  nd := List.nodup_append.mpr ⟨ok.nd, by simp, fun a ha b hb z => by
    have : b = q := by simpa using hb
    subst this z
    exact ok.fresh n ha⟩
  ct := fun h a c e1 e2 => by
    have e1' : (Z.φ ++ [q])[h]? = some a := e1
    have e2' : (Z.st ++ [ct])[h]? = some c := e2
    rcases app1_get e1' with e1' | ⟨e1', z1⟩
    · rcases app1_get e2' with e2' | ⟨e2', z2⟩
      · exact ctok_st (ok.leOwn n).stay (fun q => q.tr (ok.leOwn n)) (fun u e _ => upd_keep n e) (fun u e => ⟨u, upd_keep n e⟩) (ok.ct h a c e1' e2')
      · have := (List.getElem?_eq_some_iff.mp e1').1
        rw [ok.len] at this
        omega
    · rcases app1_get e2' with e2' | ⟨e2', z2⟩
      · have := (List.getElem?_eq_some_iff.mp e2').1
        rw [← ok.len] at this
        omega
      · subst z1 z2
        exact hc
  fo := fun a h => let ⟨u, e⟩ := ok.fo a h; ⟨u, upd_keep n e⟩
  fd := fun a m f => by
    rcases List.mem_append.mp (show a ∈ Z.φ ++ [q] from m) with m | m
    · exact ok.fd a m f
    · have : a = q := by simpa using m
      subst this
      obtain ⟨o, e⟩ := ok.fo a f
      rw [n] at e; cases e
  tb := tabs_new ok.tb n (ok.leOwn (o := o) (ct := ct) n).w ho fun xs e w => by
    have eq : (Z.own q o ct).H q = some (.tup xs) := by rw [← e]; exact upd_same
    rcases w with ⟨i, c, e1, e2, lv⟩ | w
    · have e1' : (Z.φ ++ [q])[i]? = some q := e1
      have e2' : (Z.st ++ [ct])[i]? = some c := e2
      rcases app1_get e1' with e1' | ⟨e1', z1⟩
      · exact ok.fresh n (List.mem_of_getElem? e1')
      · rcases app1_get e2' with e2' | ⟨e2', z2⟩
        · have := (List.getElem?_eq_some_iff.mp e2').1
          rw [← ok.len] at this
          omega
        · subst z2
          exact hc.notup lv xs eq
    · obtain ⟨u, e⟩ := ok.fo q w
      rw [n] at e; cases e
theorem KOk.ownL {Qd : DK} {Q : VK} (k : KOk K Z Qd Q) (ok : Ok K Z) {xs : List V} {ds : List PyData} (r : Z.ImAll K xs ds) (w : Qd (.o Z.st.length) (Z.st ++ [.lst ds])) : ∀ p, Z.H p = none → Q (.ref p) (upd Z.H p (.lst xs)) := fun p n => by
  have l := ok.leOwn (o := .lst xs) (ct := .lst ds) n
  refine k (Z.own p (.lst xs) (.lst ds)) (.ref p) (.o Z.st.length) l (ok.own n ⟨xs, upd_same, ImAll.tr l.stay r⟩) ⟨p, .lst ds, rfl, ?_, ?_, trivial⟩ w
  · show (Z.φ ++ [p])[Z.st.length]? = _
    rw [← ok.len, List.getElem?_append_right (Nat.le_refl _)]
    simp
  · show (Z.st ++ [Ct.lst ds])[Z.st.length]? = _
    rw [List.getElem?_append_right (Nat.le_refl _)]
    simp
end
theorem de_lstO (h : DAs X E es t) : DEx X E (.List es pos) (wLstO t) := ⟨peI (pe_lst h.run) fun σ H Q ⟨Z, sl, Qd, Ed, h, ok, so, w, kq, kx⟩ =>
  ⟨Z, sl, _, Ed, h, ok, so, w, fun Z1 vs ss l1 ok1 r1 w1 => by
    simp only at w1
    split at w1
    · rename_i ds e
      have q := dsOf_ok r1 e
      exact ⟨by rw [q.length]; exact w1.1, (kq.le l1).ownL ok1 q w1.2⟩
    · exact w1.elim, kx⟩⟩
end
end Pz
set_option maxRecDepth 100000
namespace Pz
open PySem PySem.Spec PyProof.Rows L2 TL
variable [TabC]
section
variable {X : Cx} {E : WXs} {Z0 : Zs} {a b c e : Expr} {es : List Expr} {ta tb tc te : DE} {t : DA} {pos p : Pos} {x : Str} {K : Frag}
theorem rp1 {Z : Zs} {vs : List V} {s : Sl} (r : RpAll K Z vs [s]) : ∃ v, vs = [v] ∧ Rp K Z v s := by
  cases r with
  | cons p r => cases r; exact ⟨_, rfl, p⟩
theorem rp2 {Z : Zs} {vs : List V} {s t : Sl} (r : RpAll K Z vs [s, t]) : ∃ v u, vs = [v, u] ∧ Rp K Z v s ∧ Rp K Z u t := by
  cases r with
  | cons p r => obtain ⟨u, rfl, q⟩ := rp1 r; exact ⟨_, u, rfl, p, q⟩
def fLen : FA := fun ss st Q => match ss with
  | [s] => match vw st s with
    | some (.list ds) => Q (.d (.int ds.length)) st
    | some (.tuple ds) => Q (.d (.int ds.length)) st
    | some (.str z) => z.length ≤ sizeLine ∧ Q (.d (.int z.length)) st
    | _ => False
  | _ => False
theorem cd_len : CallD K (fun xs H Q => ∃ x n, xs = [x] ∧ LenV K x H n ∧ Q (.int n) H) fLen := by
  intro Z vs ss Qd Q ok ra w k
  unfold fLen at w
  split at w
  · obtain ⟨v, rfl, r⟩ := rp1 ra
    split at w
    · rename_i ds e
      obtain ⟨a, xs, rfl, h, q⟩ := r.list ok e
      exact ⟨_, ds.length, rfl, .inl ⟨xs, .of h, q.length.symm⟩, k.now ok (.int _) w⟩
    · rename_i ds e
      obtain ⟨a, xs, rfl, h, q⟩ := r.tuple e
      exact ⟨_, ds.length, rfl, .inr ⟨xs, h.sq, q.length.symm⟩, k.now ok (.int _) w⟩
    · rename_i z e
      obtain rfl := r.str e
      exact ⟨_, z.length, rfl, ⟨w.1, rfl⟩, k.now ok (.int _) w.2⟩
    · exact w.elim
  · exact w.elim
def fAbs : FA := fun ss st Q => match ss with
  | [s] => match vw st s with
    | some (.int i) => Q (.d (.int (if i < 0 then -i else i))) st
    | _ => False
  | _ => False
theorem cd_abs : CallD K (fun xs H Q => ∃ i, xs = [.int i] ∧ Q (.int (if i < 0 then -i else i)) H) fAbs := by
  intro Z vs ss Qd Q ok ra w k
  unfold fAbs at w
  split at w
  · obtain ⟨v, rfl, r⟩ := rp1 ra
    split at w
    · rename_i i e
      obtain rfl := r.int e
      exact ⟨i, rfl, k.now ok (.int _) w⟩
    · exact w.elim
  · exact w.elim
def fInt : FA := fun ss st Q => match ss with
  | [s] => match vw st s with
    | some (.int i) => Q (.d (.int i)) st
    | some (.bool b) => Q (.d (.int (if b then 1 else 0))) st
    | _ => False
  | _ => False
theorem cd_int : CallD K (fun xs H Q => (∃ i, xs = [.int i] ∧ Q (.int i) H) ∨ ∃ k, xs = [.bl k] ∧ Q (.int (if k then 1 else 0)) H) fInt := by
  intro Z vs ss Qd Q ok ra w k
  unfold fInt at w
  split at w
  · obtain ⟨v, rfl, r⟩ := rp1 ra
    split at w
    · rename_i i e
      obtain rfl := r.int e
      exact .inl ⟨i, rfl, k.now ok (.int _) w⟩
    · rename_i i e
      obtain rfl := r.bl e
      exact .inr ⟨i, rfl, k.now ok (.int _) w⟩
    · exact w.elim
  · exact w.elim
def asInts : List PyData → Option (List Int)
  | [] => some []
  | .int i :: r => match asInts r with
    | some ns => some (i :: ns)
    | none => none
  | .none :: _ => none
  | .bool _ :: _ => none
  | .str _ :: _ => none
  | .list _ :: _ => none
  | .tuple _ :: _ => none
  | .dict _ :: _ => none
theorem asInts_map : ∀ ns : List Int, asInts (ns.map PyData.int) = some ns
  | [] => rfl
  | n :: ns => by rw [List.map_cons, asInts, asInts_map ns]
theorem asInts_eq : ∀ {ds : List PyData} {ns : List Int}, asInts ds = some ns → ds = ns.map .int
  | [], ns, e => by simp only [asInts, Option.some.injEq] at e; subst e; rfl
  | .int i :: r, ns, e => by
    simp only [asInts] at e
    split at e
    · rename_i ns' e'
      simp only [Option.some.injEq] at e
      subst e
      rw [List.map_cons, ← asInts_eq e']
    · cases e
  | .none :: _, _, e => by simp [asInts] at e
  | .bool _ :: _, _, e => by simp [asInts] at e
  | .str _ :: _, _, e => by simp [asInts] at e
  | .list _ :: _, _, e => by simp [asInts] at e
  | .tuple _ :: _, _, e => by simp [asInts] at e
  | .dict _ :: _, _, e => by simp [asInts] at e
theorem im_ints {W : Addr → Prop} {H : Hp} : ∀ {vs : List V} {ns : List Int}, ImAll K W H vs (ns.map .int) → vs = ns.map V.int
  | vs, [], h => by cases h; rfl
  | vs, n :: ns, h => by
    cases h with
    | cons p r => cases p; rw [im_ints r]; rfl
theorem ints_im {W : Addr → Prop} {H : Hp} : ∀ (ns : List Int), ImAll K W H (ns.map V.int) (ns.map .int)
  | [] => .nil
  | n :: ns => .cons (.int n) (ints_im ns)
def lmax : List Int → Int
  | [] => 0
  | x :: r => r.foldl max x
def lmin : List Int → Int
  | [] => 0
  | x :: r => r.foldl min x
theorem foldl_max : ∀ (l : List Int) (x : Int), (l.foldl max x = x ∨ l.foldl max x ∈ l) ∧ x ≤ l.foldl max x ∧ ∀ y ∈ l, y ≤ l.foldl max x
  | [], x => by simp
  | y :: l, x => by
    obtain ⟨h1, h2, h3⟩ := foldl_max l (max x y)
    rw [List.foldl_cons]
    refine ⟨?_, by omega, fun z hz => ?_⟩
    · rcases h1 with h1 | h1
      · rw [h1]
        by_cases q : x ≤ y
        · right; rw [Int.max_eq_right q]; exact List.mem_cons_self
        · left; exact Int.max_eq_left (by omega)
      · exact .inr (List.mem_cons_of_mem _ h1)
    · rcases List.mem_cons.mp hz with e | hz
      · subst e; omega
      · exact h3 z hz
theorem foldl_min : ∀ (l : List Int) (x : Int), (l.foldl min x = x ∨ l.foldl min x ∈ l) ∧ l.foldl min x ≤ x ∧ ∀ y ∈ l, l.foldl min x ≤ y
  | [], x => by simp
  | y :: l, x => by
    obtain ⟨h1, h2, h3⟩ := foldl_min l (min x y)
    rw [List.foldl_cons]
    refine ⟨?_, by omega, fun z hz => ?_⟩
    · rcases h1 with h1 | h1
      · rw [h1]
        by_cases q : x ≤ y
        · left; exact Int.min_eq_left q
        · right; rw [Int.min_eq_right (by omega)]; exact List.mem_cons_self
      · exact .inr (List.mem_cons_of_mem _ h1)
    · rcases List.mem_cons.mp hz with e | hz
      · subst e; omega
      · exact h3 z hz
theorem lmax_mem {l : List Int} (h : 0 < l.length) : lmax l ∈ l ∧ ∀ y ∈ l, y ≤ lmax l := by
  cases l with
  | nil => simp at h
  | cons x r =>
    obtain ⟨h1, h2, h3⟩ := foldl_max r x
    refine ⟨?_, fun y hy => ?_⟩
    · show r.foldl max x ∈ _
      rcases h1 with h1 | h1
      · rw [h1]; exact List.mem_cons_self
      · exact List.mem_cons_of_mem _ h1
    · rcases List.mem_cons.mp hy with e | hy
      · subst e; exact h2
      · exact h3 y hy
theorem lmin_mem {l : List Int} (h : 0 < l.length) : lmin l ∈ l ∧ ∀ y ∈ l, lmin l ≤ y := by
  cases l with
  | nil => simp at h
  | cons x r =>
    obtain ⟨h1, h2, h3⟩ := foldl_min r x
    refine ⟨?_, fun y hy => ?_⟩
    · show r.foldl min x ∈ _
      rcases h1 with h1 | h1
      · rw [h1]; exact List.mem_cons_self
      · exact List.mem_cons_of_mem _ h1
    · rcases List.mem_cons.mp hy with e | hy
      · subst e; exact h2
      · exact h3 y hy
def vwI (st : Sto) (s : Sl) : Option (List Int) := match vw st s with
  | some (.list ds) => asInts ds
  | _ => none
def fMax : FA := fun ss st Q => match ss with
  | [s] => match vwI st s with
    | some ns => 0 < ns.length ∧ Q (.d (.int (lmax ns))) st
    | none => False
  | [s, t] => match vw st s, vw st t with
    | some (.int i), some (.int j) => Q (.d (.int (max i j))) st
    | _, _ => False
  | _ => False
def fMin : FA := fun ss st Q => match ss with
  | [s] => match vwI st s with
    | some ns => 0 < ns.length ∧ Q (.d (.int (lmin ns))) st
    | none => False
  | [s, t] => match vw st s, vw st t with
    | some (.int i), some (.int j) => Q (.d (.int (min i j))) st
    | _, _ => False
  | _ => False
def fSum : FA := fun ss st Q => match ss with
  | [s] => match vwI st s with
    | some ns => Q (.d (.int ns.sum)) st
    | none => False
  | _ => False
def asBools : List PyData → Option (List Bool)
  | [] => some []
  | .bool i :: r => match asBools r with
    | some ns => some (i :: ns)
    | none => none
  | .none :: _ => none
  | .int _ :: _ => none
  | .str _ :: _ => none
  | .list _ :: _ => none
  | .tuple _ :: _ => none
  | .dict _ :: _ => none
def vwB (st : Sto) (s : Sl) : Option (List Bool) := match vw st s with
  | some (.list ds) => asBools ds
  | _ => none
def fAll : FA := fun ss st Q => match ss with
  | [s] => match vwB st s with
    | some ns => Q (.d (.bool (ns.all id))) st
    | none => False
  | _ => False
def fAny : FA := fun ss st Q => match ss with
  | [s] => match vwB st s with
    | some ns => Q (.d (.bool (ns.any id))) st
    | none => False
  | _ => False
def fList : FA := fun ss st Q => match ss with
  | [s] => match vw st s with
    | some (.list ds) => Q (.d (.list ds)) st
    | some (.tuple ds) => Q (.d (.list ds)) st
    | _ => False
  | _ => False
def fListO : FA := fun ss st Q => match ss with
  | [s] => match vw st s with
    | some (.list ds) => Q (.o st.length) (st ++ [.lst ds])
    | some (.tuple ds) => Q (.o st.length) (st ++ [.lst ds])
    | _ => False
  | _ => False
def fTuple : FA := fun ss st Q => match ss with
  | [s] => match vw st s with
    | some (.list ds) => Q (.d (.tuple ds)) st
    | some (.tuple ds) => Q (.d (.tuple ds)) st
    | _ => False
  | _ => False
theorem cd_tuple : CallD K (fun xs H Q => ∃ p ys, xs = [.ref p] ∧ ((SqL K H p ys ∧ ∀ l, H l = none → Q (.ref l) (upd H l (.tup ys))) ∨ (SqT K H p ys ∧ Q (.ref p) H))) fTuple := by
  intro Z vs ss Qd Q ok ra w k
  unfold fTuple at w
  split at w
  · obtain ⟨v, rfl, r⟩ := rp1 ra
    split at w
    · rename_i ds e
      obtain ⟨a, xs, rfl, h, q⟩ := r.list ok e
      exact ⟨a, xs, rfl, .inl ⟨.of h, k.newT ok q w⟩⟩
    · rename_i ds e
      obtain ⟨a, xs, rfl, h, q⟩ := r.tuple e
      exact ⟨a, xs, rfl, .inr ⟨h.sq, k.now ok (.tup h q) w⟩⟩
    · exact w.elim
  · exact w.elim
def isort (ns : List Int) : List Int := ns.mergeSort fun a b => decide (a ≤ b)
theorem isort_perm (ns : List Int) : (isort ns).Perm ns := List.mergeSort_perm _ _
def fSorted : FA := fun ss st Q => match ss with
  | [s] => match vwI st s with
    | some ns => Q (.d (.list ((isort ns).map .int))) st
    | none => False
  | _ => False
theorem call_reprD (hA : X.A.guards = some []) (hu : X.A.units + 64 < cLine) : CallR X (.builtin "repr") (fun xs H Q => ∃ x d, xs = [x] ∧ Dp X.K H x d ∧ d.showable = true ∧ d.hasDict = false ∧ d.depth ≤ 60 ∧ d.shown.length ≤ sizeLine ∧ Q (.str d.shown) H) := by
  intro pins s σ H xs us Q I r h
  obtain ⟨x, d, rfl, hd, sh, hD, dp, sz, q⟩ := h
  obtain ⟨u, rfl, ru⟩ := vals1 r
  have fin : ∀ (h' : Heap) (t : Tok) (k : Nat), (∀ b o, s.heap.get? b = some o → h'.get? b = some o) → EP X pins σ Q (.str d.shown t) { s with heap := h', toks := k } := fun h' t k hk => ⟨.str d.shown, H, I.kept hk, ⟨_, rfl⟩, q⟩
  have fin0 : ∀ (t : Tok) (k : Nat), EP X pins σ Q (.str d.shown t) { s with toks := k } := fun t k => fin s.heap t k fun _ _ e => e
  cases hd with
  | non =>
    obtain rfl : u = Value.none := ru
    exact PySem.P.repr_of_none (fin0 _ _)
  | bl i =>
    obtain rfl : u = Value.bool i := ru
    exact PySem.P.repr_of_bool (fin0 _ _)
  | int i =>
    obtain ⟨t, rfl⟩ := ru
    exact PySem.P.repr_of_int (by simpa [PyData.showable] using sh) (fin0 _ _)
  | str i =>
    obtain ⟨t, rfl⟩ := ru
    exact PySem.P.repr_of_str (fin0 _ _) sz
  | lst h1 h2 =>
    obtain rfl := ru
    obtain ⟨as, rd⟩ := Dp.reads I _ _ _ (.lst h1 h2) rfl
    exact repr_of_reads' rd sh (PyData.noDict_hsm hD) hA (by omega) (fun _ _ e => e) (fun h' u tk hk => fin h' u tk hk) sz
  | tup h1 h2 =>
    obtain rfl := ru
    obtain ⟨as, rd⟩ := Dp.reads I _ _ _ (.tup h1 h2) rfl
    exact repr_of_reads' rd sh (PyData.noDict_hsm hD) hA (by omega) (fun _ _ e => e) (fun h' u tk hk => fin h' u tk hk) sz
def fRepr : FA := fun ss st Q => match ss with
  | [s] => match vw st s with
    | some d => d.showable = true ∧ d.hasDict = false ∧ d.depth ≤ 60 ∧ d.shown.length ≤ sizeLine ∧ Q (.d (.str d.shown)) st
    | none => False
  | _ => False
end
end Pz
set_option maxRecDepth 100000
namespace Pz
open PySem PySem.Spec PyProof.Rows L2 TL
variable [TabC]
section
variable {X : Cx} {E : WXs} {Z0 : Zs} {a b c e : Expr} {es : List Expr} {ta tb tc te : DE} {t : DA} {pos p : Pos} {x : Str} {K : Frag}
def oIx (s t : Sl) (st : Sto) (Q : DK) : Prop := match vw st s, vw st t with
  | some (.list ds), some (.int i) => match atI ds i with
    | some d => Q (.d d) st
    | none => False
  | some (.tuple ds), some (.int i) => match atI ds i with
    | some d => Q (.d d) st
    | none => False
  | some (.str z), some (.int i) => z.length ≤ sizeLine ∧ match atI (tl z) i with
    | some c => Q (.d (.str ⟨#[c]⟩)) st
    | none => False
  | _, _ => False
theorem im_at {W : Addr → Prop} {H : Hp} {xs : List V} {ds : List PyData} {i : Int} {d : PyData} (q : ImAll K W H xs ds) (e : atI ds i = some d) : ∃ v, atI xs i = some v ∧ Im K W H v d := by
  unfold atI at e ⊢
  rw [q.length]
  cases z : ixN ds.length i with
  | none => rw [z] at e; cases e
  | some j =>
    rw [z] at e
    exact q.get' e
theorem d2_ix : D2 K (rIx K) oIx := by
  intro Z v u s t Qd Q ok r1 r2 w k
  unfold oIx at w
  split at w
  · rename_i ds i e1 e2
    split at w
    · rename_i d ed
      obtain ⟨a, xs, rfl, h, q⟩ := r1.list ok e1
      obtain rfl := r2.int e2
      obtain ⟨v, ev, rv⟩ := im_at q ed
      exact .inl ⟨a, xs, i, v, rfl, rfl, .of h, ev, k.now ok rv w⟩
    · exact w.elim
  · rename_i ds i e1 e2
    split at w
    · rename_i d ed
      obtain ⟨a, xs, rfl, h, q⟩ := r1.tuple e1
      obtain rfl := r2.int e2
      obtain ⟨v, ev, rv⟩ := im_at q ed
      exact .inr (.inl ⟨a, xs, i, v, rfl, rfl, h.sq, ev, k.now ok rv w⟩)
    · exact w.elim
  · rename_i z i e1 e2
    obtain ⟨hz, w⟩ := w
    split at w
    · rename_i c ec
      obtain rfl := r1.str e1
      obtain rfl := r2.int e2
      exact .inr (.inr ⟨z, i, c, rfl, rfl, hz, ec, k.now ok (.str _) w⟩)
    · exact w.elim
  · exact w.elim
abbrev DO := DX → Sls → Sto → (Option Int → Sto → Prop) → Prop
structure DPo (X : Cx) (E : WXs) (e : Option Expr) (τ : DO) : Prop where
  run : PO X e fun σ H Q => ∃ (Z : Zs) (sl : Sls) (Qd : Option Int → Sto → Prop) (Ed : DX), Z.H = H ∧ Ok X.K Z ∧ SlOk X.K Z σ sl ∧ τ Ed sl Z.st Qd ∧ (∀ (Z' : Zs) (o : Option Int), Le Z Z' → Ok X.K Z' → Qd o Z'.st → Q o Z'.H) ∧ KXOk X.K Z Ed E
def wNoPart : DO := fun _ _ st Q => Q none st
def wPart (te : DE) : DO := fun Ed sl st Q => te Ed sl st fun s st => match vw st s with
  | some (.int i) => Q (some i) st
  | _ => False
theorem poI {e : Option Expr} {t t' : TO} (h : PO X e t) (i : ∀ σ H Q, t' σ H Q → t σ H Q) : PO X e t' := by
  obtain ⟨h⟩ := h
  constructor
  intros
  exact h _ _ _ _ _ (by assumption) (i _ _ _ (by assumption))
theorem dpo_none : DPo X E none wNoPart := ⟨poI po_none fun σ H Q ⟨Z, sl, Qd, Ed, h, ok, so, w, k, kx⟩ => by
  subst h
  exact k Z none (.refl ok) ok w⟩
theorem dpo_some (he : DEx X E e te) : DPo X E (some e) (wPart te) := ⟨poI (po_some he.run) fun σ H Q ⟨Z, sl, Qd, Ed, h, ok, so, w, k, kx⟩ =>
  ⟨Z, sl, _, Ed, h, ok, so, w, fun Z1 v s l1 ok1 r1 w1 => by
    simp only at w1
    split at w1
    · rename_i i e
      exact ⟨i, r1.int e, k Z1 _ l1 ok1 w1⟩
    · exact w1.elim, kx⟩⟩
def cutD (xs : List α) (lo hi : Option Int) : List α := (xs.drop (HT.sIx xs.length 0 lo)).take (HT.sIx xs.length xs.length hi - HT.sIx xs.length 0 lo)
def oSl (s : Sl) (lo hi : Option Int) (st : Sto) (Q : DK) : Prop := match s with
  | .f ns => Q (.d (.list ((cutD ns lo hi).map .int))) st
  | s => match vw st s with
    | some (.list ds) => Q (.d (.list (cutD ds lo hi))) st
    | some (.tuple ds) => Q (.d (.tuple (cutD ds lo hi))) st
    | some (.str z) => z.length ≤ sizeLine ∧ Q (.d (.str (cutS z lo hi))) st
    | _ => False
def rSl (K : Frag) : V → Option Int → Option Int → Hp → VK → Prop := fun x lo hi H Q => rSlL K x lo hi H Q ∨ rSlA K x lo hi H Q ∨ rSlS x lo hi H Q
theorem sl_any : SlR X (rSl X.K) := sl_list.or (sl_tupA.or sl_str)
theorem im_cut {W : Addr → Prop} {H : Hp} {xs : List V} {ds : List PyData} (q : ImAll K W H xs ds) (lo hi : Option Int) : ImAll K W H (cutV xs lo hi) (cutD ds lo hi) := by
  unfold cutV cutD
  rw [q.length]
  exact (q.drop _).take _
theorem cut_map (f : α → β) (xs : List α) (lo hi : Option Int) : cutD (xs.map f) lo hi = (cutD xs lo hi).map f := by
  unfold cutD
  rw [List.length_map, ← List.map_drop, ← List.map_take]
def wSl (te : DE) (tl th : DO) : DE := fun Ed sl st Q => te Ed sl st fun s st => tl Ed sl st fun lo st => th Ed sl st fun hi st => oSl s lo hi st Q
variable {lo hi : Option Expr} {tlo thi : DO} {p2 : Pos}
theorem oSl_ok {Z : Zs} {v : V} {s : Sl} {lo hi : Option Int} {Qd : DK} {Q : VK} (ok : Ok K Z) (r : Rp K Z v s) (w : oSl s lo hi Z.st Qd) (k : KOk K Z Qd Q) : rSl K v lo hi Z.H Q := by
  have gen : ∀ s', (∀ ns, s' ≠ .f ns) → Rp K Z v s' → oSl s' lo hi Z.st Qd → rSl K v lo hi Z.H Q := fun s' ne r w => by
    unfold oSl at w
    split at w
    · exact absurd rfl (ne _)
    · split at w
      · rename_i ds e1
        obtain ⟨a, xs, rfl, h, q⟩ := r.list ok e1
        exact .inl ⟨a, xs, rfl, .of h, k.newL ok (im_cut q lo hi) w⟩
      · rename_i ds e1
        obtain ⟨a, xs, rfl, h, q⟩ := r.tuple e1
        refine .inr (.inl ⟨a, xs, rfl, h.sq, fun z => ?_, fun _ => k.newT ok (im_cut q lo hi) w⟩)
        have e2 : cutD ds lo hi = ds := by
          unfold cutD
          rw [← q.length, z.1, z.2, List.drop_zero, Nat.sub_zero, q.length]
          exact List.take_length
        rw [e2] at w
        exact k.now ok (.tup h q) w
      · rename_i z e1
        obtain rfl := r.str e1
        exact .inr (.inr ⟨z, rfl, w.1, k.now ok (.str _) w.2⟩)
      · exact w.elim
  cases s with
  | f ns =>
    obtain ⟨a, rfl, h⟩ := r
    refine .inl ⟨a, ns.map V.int, rfl, h.sq, ?_⟩
    rw [show cutV (ns.map V.int) lo hi = (cutD ns lo hi).map V.int from cut_map V.int ns lo hi]
    exact k.newL ok (ints_im _) w
  | d x => exact gen (.d x) (fun _ z => nomatch z) r w
  | o h => exact gen (.o h) (fun _ z => nomatch z) r w
  | r u => exact gen (.r u) (fun _ z => nomatch z) r w
  | l a b c => exact gen (.l a b c) (fun _ z => nomatch z) r w
theorem de_slice (he : DEx X E e te) (hl : DPo X E lo tlo) (hh : DPo X E hi thi) : DEx X E (.Subscript e (.Slice lo hi none p2) pos) (wSl te tlo thi) :=
  ⟨peI (pe_slice sl_any he.run hl.run hh.run) fun σ H Q ⟨Z, sl, Qd, Ed, h, ok, so, w, k, kx⟩ =>
    ⟨Z, sl, _, Ed, h, ok, so, w, fun Z1 v s l1 ok1 r1 w1 =>
      ⟨Z1, sl, _, Ed, rfl, ok1, so.tr l1, w1, fun Z2 o l2 ok2 w2 =>
        ⟨Z2, sl, _, Ed, rfl, ok2, (so.tr l1).tr l2, w2, fun Z3 o' l3 ok3 w3 =>
          oSl_ok ok3 ((r1.tr l2).tr l3) w3 (k.le ((l1.trans l2).trans l3)), (kx.le l1).le l2⟩, kx.le l1⟩, kx⟩⟩
variable {A : DT} {B : DT} {rest : List Expr}
def wAnd (t u : DT) : DT := fun Ed sl st Q => t Ed sl st fun b st => if b = true then u Ed sl st Q else Q false st
def wOr (t u : DT) : DT := fun Ed sl st Q => t Ed sl st fun b st => if b = true then Q true st else u Ed sl st Q
def wNot (t : DT) : DT := fun Ed sl st Q => t Ed sl st fun b st => Q (!b) st
theorem DWs.dt {τ : DT} (h : DWs X E e τ) : DTs X E e τ := ⟨h.run.pt⟩
theorem dw_and1 (ha : DTs X E a A) : DWs X E (.BoolOp .And [a] pos) A := ⟨pw_and1 ha.run⟩
theorem dw_or1 (ha : DTs X E a A) : DWs X E (.BoolOp .Or [a] pos) A := ⟨pw_or1 ha.run⟩
theorem dw_and (ha : DTs X E a A) (hb : DWs X E (.BoolOp .And (b :: rest) pos) B) : DWs X E (.BoolOp .And (a :: b :: rest) pos) (wAnd A B) :=
  ⟨pwI (pw_and ha.run hb.run) fun σ H Q ⟨Z, sl, Qd, Ed, h, ok, so, w, k, kx⟩ => ⟨Z, sl, _, Ed, h, ok, so, w, fun Z1 b l1 ok1 w1 => by
    cases b with
    | true => exact ⟨Z1, sl, Qd, Ed, rfl, ok1, so.tr l1, w1, fun Z2 c l2 => k Z2 c (l1.trans l2), kx.le l1⟩
    | false => exact k Z1 false l1 ok1 w1, kx⟩⟩
theorem dw_or (ha : DTs X E a A) (hb : DWs X E (.BoolOp .Or (b :: rest) pos) B) : DWs X E (.BoolOp .Or (a :: b :: rest) pos) (wOr A B) :=
  ⟨pwI (pw_or ha.run hb.run) fun σ H Q ⟨Z, sl, Qd, Ed, h, ok, so, w, k, kx⟩ => ⟨Z, sl, _, Ed, h, ok, so, w, fun Z1 b l1 ok1 w1 => by
    cases b with
    | false => exact ⟨Z1, sl, Qd, Ed, rfl, ok1, so.tr l1, w1, fun Z2 c l2 => k Z2 c (l1.trans l2), kx.le l1⟩
    | true => exact k Z1 true l1 ok1 w1, kx⟩⟩
theorem dt_not (ha : DTs X E a A) : DTs X E (.UnaryOp .Not a pos) (wNot A) :=
  ⟨ptI (pt_not ha.run) fun σ H Q ⟨Z, sl, Qd, Ed, h, ok, so, w, k, kx⟩ => ⟨Z, sl, _, Ed, h, ok, so, w, fun Z1 b l1 ok1 w1 => k Z1 (!b) l1 ok1 w1, kx⟩⟩
def wAndV (ta tb : DE) : DE := fun Ed sl st Q => ta Ed sl st fun s st => match s with
  | .d (.bool b) => if b = true then tb Ed sl st Q else Q (.d (.bool false)) st
  | _ => False
def wOrV (ta tb : DE) : DE := fun Ed sl st Q => ta Ed sl st fun s st => match s with
  | .d (.bool b) => if b = true then Q (.d (.bool true)) st else tb Ed sl st Q
  | _ => False
def wNotV (ta : DE) : DE := fun Ed sl st Q => ta Ed sl st fun s st => match s with
  | .d (.bool b) => Q (.d (.bool (!b))) st
  | _ => False
def wIfE (t : DT) (ta tb : DE) : DE := fun Ed sl st Q => t Ed sl st fun b st => if b = true then ta Ed sl st Q else tb Ed sl st Q
theorem de_if (hc : DTs X E c A) (ha : DEx X E a ta) (hb : DEx X E b tb) : DEx X E (.IfExp c a b pos) (wIfE A ta tb) :=
  ⟨peI (pe_ifExp hc.run ha.run hb.run) fun σ H Q ⟨Z, sl, Qd, Ed, h, ok, so, w, k, kx⟩ => ⟨Z, sl, _, Ed, h, ok, so, w, fun Z1 b l1 ok1 w1 => by
    cases b with
    | true => exact ⟨Z1, sl, Qd, Ed, rfl, ok1, so.tr l1, w1, k.le l1, kx.le l1⟩
    | false => exact ⟨Z1, sl, Qd, Ed, rfl, ok1, so.tr l1, w1, k.le l1, kx.le l1⟩, kx⟩⟩
def truD (st : Sto) (s : Sl) : Option Bool := match vw st s with
  | some .none => some false
  | some (.bool b) => some b
  | some (.int i) => some (i != 0)
  | some (.str z) => if z.length ≤ sizeLine then some ((z.length : Int) != 0) else none
  | some (.list ds) => some (!ds.isEmpty)
  | some (.tuple ds) => some (!ds.isEmpty)
  | _ => none
theorem im_empty {W : Addr → Prop} {H : Hp} {xs : List V} {ds : List PyData} (q : ImAll K W H xs ds) : xs.isEmpty = ds.isEmpty := by cases q <;> rfl
theorem truD_ok {Z : Zs} (ok : Ok K Z) {v : V} {s : Sl} {b : Bool} (r : Rp K Z v s) (e : truD Z.st s = some b) : TruV K v Z.H b := by
  unfold truD at e
  split at e
  · rename_i e1; obtain rfl := r.non e1; simp only [Option.some.injEq] at e; exact (show b = false from e.symm)
  · rename_i e1; obtain rfl := r.bl e1; simp only [Option.some.injEq] at e; exact (show b = _ from e.symm)
  · rename_i e1; obtain rfl := r.int e1; simp only [Option.some.injEq] at e; exact e.symm
  · rename_i z e1
    obtain rfl := r.str e1
    split at e
    · rename_i hz; simp only [Option.some.injEq] at e; exact ⟨hz, e.symm⟩
    · cases e
  · rename_i ds e1
    obtain ⟨a, xs, rfl, h, q⟩ := r.list ok e1
    simp only [Option.some.injEq] at e
    exact .inl ⟨xs, .of h, by rw [im_empty q]; exact e.symm⟩
  · rename_i ds e1
    obtain ⟨a, xs, rfl, h, q⟩ := r.tuple e1
    simp only [Option.some.injEq] at e
    exact .inr (.inl ⟨xs, h.sq, by rw [im_empty q]; exact e.symm⟩)
  · cases e
def wTru (te : DE) : DT := fun Ed sl st Q => te Ed sl st fun s st => match truD st s with
  | some b => Q b st
  | none => False
theorem dt_tru (ha : DEx X E a ta) (he : ∀ whole, isTrue a X.env whole = (do let v ← whole; standAt a.pos; holding [v] (truthy v)) := by intro _; rfl) : DTs X E a (wTru ta) :=
  ⟨ptI (pt_truth ha.run he) fun σ H Q ⟨Z, sl, Qd, Ed, h, ok, so, w, k, kx⟩ => ⟨Z, sl, _, Ed, h, ok, so, w, fun Z1 v s l1 ok1 r1 w1 => by
    simp only at w1
    split at w1
    · rename_i b e
      exact ⟨b, truD_ok ok1 r1 e, k Z1 b l1 ok1 w1⟩
    · exact w1.elim, kx⟩⟩
def wChain (f g : Sl → Sl → Sto → DK → Prop) (ta tb tc : DE) : DE := fun Ed sl st Q => ta Ed sl st fun x st => tb Ed sl st fun y st => f x y st fun z st => match z with
  | .d (.bool b) => if b = true then tc Ed sl st fun w st => g y w st Q else Q (.d (.bool false)) st
  | _ => False
variable {op op' : CmpOp} {r r' : R2} {f g : Sl → Sl → Sto → DK → Prop}
def wNeg (ta : DE) : DE := fun Ed sl st Q => ta Ed sl st fun s st => match vw st s with
  | some (.int i) => Q (.d (.int (-i))) st
  | _ => False
theorem de_neg (ha : DEx X E a ta) : DEx X E (.UnaryOp .USub a pos) (wNeg ta) :=
  ⟨peI (pe_un un_neg ha.run) fun σ H Q ⟨Z, sl, Qd, Ed, h, ok, so, w, k, kx⟩ => ⟨Z, sl, _, Ed, h, ok, so, w, fun Z1 v s l1 ok1 r1 w1 => by
    simp only at w1
    split at w1
    · rename_i i e
      obtain rfl := r1.int e
      exact ⟨i, rfl, (k.le l1).now ok1 (.int _) w1⟩
    · exact w1.elim, kx⟩⟩
end
end Pz
set_option maxRecDepth 100000
namespace Pz
open PySem PySem.Spec PyProof.Rows L2 TL
variable [TabC]
section
variable {X : Cx} {E : WXs} {Z0 : Zs} {a b c e : Expr} {es : List Expr} {ta tb tc te : DE} {t : DA} {pos p : Pos} {x : Str} {K : Frag} {st : Stmt} {rest body : List Stmt} {u v : DS}
def wNext : DS := fun D sl st => D.nx sl st
def wSeq (t u : DS) : DS := fun D sl st => t { D with nx := u D } sl st
theorem dss_nil : DSs X E Z0 [] wNext := ⟨pssI pss_nil fun D σ H ⟨Z, sl, Dd, h, l0, ok, so, w, en⟩ => by
  subst h
  exact en.nx Z sl σ l0 ⟨fun _ _ e _ _ => e, fun _ _ _ n _ => n⟩ ok so w⟩
theorem dss_cons (h1 : DSt X E Z0 st u) (h2 : DSs X E Z0 rest v) : DSs X E Z0 (st :: rest) (wSeq u v) :=
  ⟨pssI (pss_cons h1.run h2.run) fun D σ H ⟨Z, sl, Dd, h, l0, ok, so, w, en⟩ =>
    ⟨Z, sl, _, h, l0, ok, so, w, ⟨fun Z1 sl1 σ1 l1 k1 ok1 so1 w1 => ⟨Z1, sl1, Dd, rfl, l1, ok1, so1, w1, en.at k1⟩, en.rt, en.ex, en.bk, en.ct⟩⟩⟩
theorem dss_one (h1 : DSt X E Z0 st u) : DSs X E Z0 [st] u := ⟨pss_one h1.run⟩
def wBreak : DS := fun D sl st => D.bk sl st
def wCont : DS := fun D sl st => D.ct sl st
def wExpr (te : DE) : DS := fun D sl st => te D.ex sl st fun _ st => D.nx sl st
theorem ds_expr (he : DEx X E e te) (hs : swapsWith e none pos.line X.env = pure false := by rfl) : DSt X E Z0 (.Expr e pos) (wExpr te) :=
  ⟨psI (ps_expr he.run hs) fun D σ H ⟨Z, sl, Dd, h, l0, ok, so, w, en⟩ =>
    ⟨Z, sl, _, Dd.ex, h, ok, so, w, fun Z1 v s l1 ok1 r1 w1 => en.nx Z1 sl σ (l0.trans l1) l1.stay ok1 (so.tr l1) w1, en.ex.le l0⟩⟩
def wRet (te : DE) : DS := fun D sl st => te D.ex sl st D.rt
theorem ds_ret (he : DEx X E e te) : DSt X E Z0 (.Return (some e) pos) (wRet te) :=
  ⟨psI (ps_ret he.run) fun D σ H ⟨Z, sl, Dd, h, l0, ok, so, w, en⟩ =>
    ⟨Z, sl, _, Dd.ex, h, ok, so, w, fun Z1 v s l1 ok1 r1 w1 => en.rt Z1 v s (l0.trans l1) ok1 r1 w1, en.ex.le l0⟩⟩
def wRetN : DS := fun D _ st => D.rt (.d .none) st
def wIf (t : DT) (u v : DS) : DS := fun D sl st => t D.ex sl st fun b st => if b = true then u D sl st else v D sl st
theorem ds_if {A : DT} {s1 s2 : List Stmt} (hc : DTs X E c A) (ha : DSs X E Z0 s1 u) (hb : DSs X E Z0 s2 v) : DSt X E Z0 (.If c s1 s2 pos) (wIf A u v) :=
  ⟨psI (ps_if hc.run ha.run hb.run) fun D σ H ⟨Z, sl, Dd, h, l0, ok, so, w, en⟩ =>
    ⟨Z, sl, _, Dd.ex, h, ok, so, w, fun Z1 b l1 ok1 w1 => by
      cases b with
      | true => exact ⟨Z1, sl, Dd, rfl, l0.trans l1, ok1, so.tr l1, w1, en.at l1.stay⟩
      | false => exact ⟨Z1, sl, Dd, rfl, l0.trans l1, ok1, so.tr l1, w1, en.at l1.stay⟩, en.ex.le l0⟩⟩
def wNever : DS := fun _ _ _ => False
def wSet (i : Nat) (te : DE) : DS := fun D sl st => te D.ex sl st fun s st => D.nx (sl.set i (some s)) st
theorem ds_set (i : Nat) {pos' : Pos} (hN : X.N.Nodup) (he : DEx X E e te) (hi : X.N[i]? = some x := by rfl) (hx : Loc X.env.scope x := by first | exact Or.inl rfl | exact Or.inr rfl) (hs : swapsWith e (some (.Name x pos')) pos.line X.env = pure false := by rfl) (hf : X.fn x = true ∨ X.env.scope.names.lookup x = some .local := by first | exact .inl rfl | exact .inr rfl) :
    DSt X E Z0 (.Assign [.Name x pos'] e pos) (wSet i te) :=
  ⟨psI (ps_set hN hi hx he.run hs hf) fun D σ H ⟨Z, sl, Dd, h, l0, ok, so, w, en⟩ =>
    ⟨Z, sl, _, Dd.ex, h, ok, so, w, fun Z1 v s l1 ok1 r1 w1 => en.nx Z1 (sl.set i (some s)) _ (l0.trans l1) l1.stay ok1 ((so.tr l1).set i r1) w1, en.ex.le l0⟩⟩
def wAug (i : Nat) (f : Sl → Sl → Sto → DK → Prop) (te : DE) : DS := fun D sl st => match nthS sl i with
  | some s => te D.ex sl st fun t st => f s t st fun z st => D.nx (sl.set i (some z)) st
  | none => False
def wWhileN (t : DT) (u : DS) (D : DEnds) : Nat → Sls → Sto → Prop
  | 0 => fun _ _ => False
  | n + 1 => fun sl st => t D.ex sl st fun b st => if b = true then u { D with nx := wWhileN t u D n, ct := wWhileN t u D n, bk := D.nx } sl st else D.nx sl st
def wWhile (t : DT) (u : DS) : DS := fun D sl st => ∃ n, wWhileN t u D n sl st
theorem ds_while {A : DT} (hp : PassesOwn (model X.prog X.w) X.A X.env X.xe) (hc : DTs X E c A) (hb : DSs X E Z0 body u) : DSt X E Z0 (.While c body [] pos) (wWhile A u) :=
  ⟨psI (ps_while hp hc.run hb.run) fun D σ H ⟨Z, sl, Dd, h, l0, ok, so, ⟨n, w⟩, en⟩ => by
    subst h
    refine ⟨fun m σ H => ∃ (Z1 : Zs) (sl1 : Sls), Z1.H = H ∧ Le Z0 Z1 ∧ Kp Z Z1 ∧ Ok X.K Z1 ∧ SlOk X.K Z1 σ sl1 ∧ wWhileN A u Dd m sl1 Z1.st, ⟨n, Z, sl, rfl, l0, ⟨fun _ _ e _ _ => e, fun _ _ _ n _ => n⟩, ok, so, w⟩, ?_⟩
    rintro m σ1 H1 ⟨Z1, sl1, rfl, l1, k1, ok1, so1, w1⟩
    cases m with
    | zero => exact w1.elim
    | succ m =>
      refine ⟨Z1, sl1, _, Dd.ex, rfl, ok1, so1, w1, fun Z2 b l2 ok2 w2 => ?_, (en.ex.at k1).le l1⟩
      cases b with
      | false => exact en.nx Z2 sl1 σ1 (l1.trans l2) (k1.trans l2.stay) ok2 (so1.tr l2) w2
      | true =>
        refine ⟨fun σ' H' => ∃ (Z1 : Zs) (sl1 : Sls), Z1.H = H' ∧ Le Z0 Z1 ∧ Kp Z Z1 ∧ Ok X.K Z1 ∧ SlOk X.K Z1 σ' sl1 ∧ wWhileN A u Dd m sl1 Z1.st, fun σ' H' z => ⟨m, Nat.lt_succ_self m, z⟩, ?_⟩
        have kz := k1.trans l2.stay
        exact ⟨Z2, sl1, _, rfl, l1.trans l2, ok2, so1.tr l2, w2, ⟨fun Z3 sl3 σ3 l3 k3 ok3 so3 w3 => ⟨Z3, sl3, rfl, l3, kz.trans k3, ok3, so3, w3⟩, en.rt, en.ex.at kz, fun Z3 sl3 σ3 l3 k3 => en.nx Z3 sl3 σ3 l3 (kz.trans k3), fun Z3 sl3 σ3 l3 k3 ok3 so3 w3 => ⟨Z3, sl3, rfl, l3, kz.trans k3, ok3, so3, w3⟩⟩⟩⟩
abbrev DG := Sl → Sls → Sto → (Sls → Sto → Prop) → Prop
abbrev DGL := List PyData → Sls → Sto → (Sls → Sto → Prop) → Prop
structure DGt (X : Cx) (tg : Expr) (is : List Nat) (g : DG) : Prop where
  run : PG X tg fun v σ H Q => ∃ (Z : Zs) (sl : Sls) (s : Sl) (Qd : Sls → Sto → Prop), Z.H = H ∧ Ok X.K Z ∧ SlOk X.K Z σ sl ∧ Rp X.K Z v s ∧ g s sl Z.st Qd ∧ ∀ (σ' : L2.St) (sl' : Sls), σ'.length = σ.length → (∀ j : Nat, j ∉ is → σ'[j]? = σ[j]?) → SlOk X.K Z σ' sl' → Qd sl' Z.st → Q σ' Z.H
structure DGs (X : Cx) (ts : List Expr) (is : List Nat) (g : DGL) : Prop where
  run : PGs X ts fun vs σ H Q => ∃ (Z : Zs) (sl : Sls) (ds : List PyData) (Qd : Sls → Sto → Prop), Z.H = H ∧ Ok X.K Z ∧ SlOk X.K Z σ sl ∧ Z.ImAll X.K vs ds ∧ g ds sl Z.st Qd ∧ ∀ (σ' : L2.St) (sl' : Sls), σ'.length = σ.length → (∀ j : Nat, j ∉ is → σ'[j]? = σ[j]?) → SlOk X.K Z σ' sl' → Qd sl' Z.st → Q σ' Z.H
theorem pgI {tg : Expr} {t t' : TG} (h : PG X tg t) (i : ∀ v σ H Q, t' v σ H Q → t v σ H Q) : PG X tg t' := ⟨fun pins s σ H v u Q I r q => h.run pins s σ H v u Q I r (i v σ H Q q)⟩
theorem pgsI {tg : List Expr} {t t' : TGs} (h : PGs X tg t) (i : ∀ v σ H Q, t' v σ H Q → t v σ H Q) : PGs X tg t' := ⟨fun pins s σ H v u Q I r q => h.run pins s σ H v u Q I r (i v σ H Q q)⟩
def gNm (i : Nat) : DG := fun s sl st Q => Q (sl.set i (some s)) st
theorem dg_name (i : Nat) (hN : X.N.Nodup) (hi : X.N[i]? = some x := by rfl) (hx : Loc X.env.scope x := by first | exact Or.inl rfl | exact Or.inr rfl) (hf : X.fn x = true ∨ X.env.scope.names.lookup x = some .local := by first | exact .inl rfl | exact .inr rfl) : DGt X (.Name x pos) [i] (gNm i) :=
  ⟨pgI (pg_name hN hi hx hf) fun v σ H Q ⟨Z, sl, s, Qd, h, ok, so, r, w, k⟩ => by
    subst h
    exact k _ _ (List.length_set) (fun j hj => List.getElem?_set_ne (by simpa using fun z => hj (by simp [z]))) (so.set i r) w⟩
def gNl : DGL := fun ds sl st Q => match ds with
  | [] => Q sl st
  | _ => False
def gCn (g : DG) (gs : DGL) : DGL := fun ds sl st Q => match ds with
  | d :: ds => g (.d d) sl st fun sl st => gs ds sl st Q
  | [] => False
theorem dgs_nil : DGs X [] [] gNl := ⟨pgsI pgs_nil fun vs σ H Q ⟨Z, sl, ds, Qd, h, ok, so, r, w, k⟩ => by
  subst h
  unfold gNl at w
  split at w
  · cases r
    exact ⟨rfl, k σ sl rfl (fun _ _ => rfl) so w⟩
  · exact w.elim⟩
theorem dgs_cons {e : Expr} {es : List Expr} {is js : List Nat} {g : DG} {gs : DGL} (h1 : DGt X e is g) (h2 : DGs X es js gs) (hs : (assignEach (e :: es) X.env).map (·.2) = assign e X.env :: (assignEach es X.env).map (·.2) := by rfl) : DGs X (e :: es) (is ++ js) (gCn g gs) :=
  ⟨pgsI (pgs_cons h1.run h2.run hs) fun vs σ H Q ⟨Z, sl, ds, Qd, h, ok, so, r, w, k⟩ => by
    subst h
    unfold gCn at w
    split at w
    · rename_i d ds
      cases r with
      | cons p r =>
        refine ⟨_, _, rfl, Z, sl, .d d, _, rfl, ok, so, p, w, fun σ1 sl1 e1 f1 so1 w1 => ?_⟩
        refine ⟨Z, sl1, ds, Qd, rfl, ok, so1, r, w1, fun σ2 sl2 e2 f2 so2 w2 => k σ2 sl2 (e2.trans e1) (fun j hj => ?_) so2 w2⟩
        rw [f2 j fun z => hj (List.mem_append_right _ z), f1 j fun z => hj (List.mem_append_left _ z)]
    · exact w.elim⟩
def gTp (n : Nat) (gs : DGL) : DG := fun s sl st Q => match vw st s with
  | some (.tuple ds) => ds.length = n ∧ gs ds sl st Q
  | _ => False
theorem dg_tup {es : List Expr} {is : List Nat} {gs : DGL} {kk n : Nat} (hc : X.calm = true) (h : DGs X es is gs) (hn : (assignEach es X.env).length = n := by rfl) (hst : (assignEach es X.env).findIdx? (·.1) = none := by rfl) : DGt X (.Tuple es kk pos) is (gTp n gs) :=
  ⟨pgI (pg_tup hc h.run hn hst) fun v σ H Q ⟨Z, sl, s, Qd, h, ok, so, r, w, k⟩ => by
    subst h
    unfold gTp at w
    split at w
    · rename_i ds e1
      obtain ⟨a, xs, rfl, h, q⟩ := r.tuple e1
      exact ⟨a, xs, rfl, h.sq, q.length.trans w.1, Z, sl, ds, Qd, rfl, ok, so, q, w.2, k⟩
    · exact w.elim⟩
def wAsg (te : DE) (g : DG) : DS := fun D sl st => te D.ex sl st fun s st => g s sl st D.nx
theorem ds_asg {tg : Expr} {is : List Nat} {g : DG} (he : DEx X E e te) (hg : DGt X tg is g) (hs : swapsWithSole [tg] e pos.line X.env = pure false := by rfl) (hw : swappedStores [tg] e X.env = pure none := by rfl)
    (h1 : (assignEach [tg] X.env).map (·.2) = [assign tg X.env] := by rfl) : DSt X E Z0 (.Assign [tg] e pos) (wAsg te g) :=
  ⟨psI (ps_asg he.run hg.run hs hw h1) fun D σ H ⟨Z, sl, Dd, h, l0, ok, so, w, en⟩ =>
    ⟨Z, sl, _, Dd.ex, h, ok, so, w, fun Z1 v s l1 ok1 r1 w1 => ⟨Z1, sl, s, _, rfl, ok1, so.tr l1, r1, w1, fun σ' sl' _ _ so' w' => en.nx Z1 sl' σ' (l0.trans l1) l1.stay ok1 so' w'⟩, en.ex.le l0⟩⟩
structure ItD (K : Frag) (J : It) (Z1 : Zs) (ds : List PyData) : Prop where
  go : ∀ Z, Kp Z1 Z → Ok K Z → ∀ i, i < ds.length → J.go i Z.H
  stop : ∀ Z, Kp Z1 Z → Ok K Z → J.stop ds.length Z.H
  yld : ∀ Z, Kp Z1 Z → Ok K Z → ∀ (i : Nat) v H' d, ds[i]? = some d → J.yld i Z.H v H' → ∃ Z', Le Z Z' ∧ Ok K Z' ∧ Z'.H = H' ∧ Z'.st = Z.st ∧ Z'.Im K v d
abbrev DI := DX → Sls → Sto → (List PyData → Sto → Prop) → Prop
def upI (K : Frag) (E : WXs) (ω : DI) : TI := fun σ H R => ∃ (Z : Zs) (sl : Sls) (Rd : List PyData → Sto → Prop) (Ed : DX), Z.H = H ∧ Ok K Z ∧ SlOk K Z σ sl ∧ ω Ed sl Z.st Rd ∧ (∀ (Z' : Zs) (J : It) (ds : List PyData), Le Z Z' → Ok K Z' → ItD K J Z' ds → Rd ds Z'.st → R J Z'.H) ∧ KXOk K Z Ed E
structure DIt (X : Cx) (E : WXs) (tg iter : Expr) (ω : DI) : Prop where
  run : PI X tg iter (upI X.K E ω)
theorem piI {tg iter : Expr} {t t' : TI} (h : PI X tg iter t) (i : ∀ σ H R, t' σ H R → t σ H R) : PI X tg iter t' := ⟨fun pins s σ H R I q => h.run pins s σ H R I (i σ H R q)⟩
def wForL (g : DG) (u : DS) (D : DEnds) : List PyData → Sls → Sto → Prop
  | [] => D.nx
  | d :: ds => fun sl st => g (.d d) sl st fun sl st => u { D with nx := wForL g u D ds, ct := wForL g u D ds, bk := D.nx } sl st
def wFor (ω : DI) (g : DG) (u : DS) : DS := fun D sl st => ω D.ex sl st fun ds st => wForL g u D ds sl st
theorem ds_for {tg iter : Expr} {is : List Nat} {ω : DI} {g : DG} (hp : PassesOwn (model X.prog X.w) X.A X.env X.xe) (hc : X.calm = true) (hi : DIt X E tg iter ω) (hg : DGt X tg is g) (hb : DSs X E Z0 body u)
    (hs : ∀ x, foldedSetIterable iter X.env x = pure x := by intro _; rfl) : DSt X E Z0 (.For tg iter body [] pos) (wFor ω g u) :=
  ⟨psI (ps_for hp hc hi.run hg.run hb.run hs) fun D σ H ⟨Z, sl, Dd, h, l0, ok, so, w, en⟩ => by
    refine ⟨Z, sl, _, Dd.ex, h, ok, so, w, fun Z1 J ds l1 ok1 it w1 => ?_, en.ex.le l0⟩
    refine ⟨fun i m σ H => m = ds.length - i ∧ i ≤ ds.length ∧ ∃ (Z2 : Zs) (sl2 : Sls), Z2.H = H ∧ Le Z0 Z2 ∧ Kp Z1 Z2 ∧ Ok X.K Z2 ∧ SlOk X.K Z2 σ sl2 ∧ wForL g u Dd (ds.drop i) sl2 Z2.st,
      ⟨ds.length, by simp, Nat.zero_le _, Z1, sl, rfl, l0.trans l1, ⟨fun _ _ e _ _ => e, fun _ _ _ n _ => n⟩, ok1, so.tr l1, w1⟩, ?_⟩
    rintro i m σ2 H2 ⟨rfl, hi, Z2, sl2, rfl, l2, k2, ok2, so2, w2⟩
    have kz := l1.stay.trans k2
    by_cases hlt : i < ds.length
    · rw [List.drop_eq_getElem_cons hlt] at w2
      refine .inr ⟨it.go Z2 k2 ok2 i hlt, fun σ' H' => ∃ (Z3 : Zs) (sl3 : Sls), Z3.H = H' ∧ Le Z0 Z3 ∧ Kp Z1 Z3 ∧ Ok X.K Z3 ∧ SlOk X.K Z3 σ' sl3 ∧ wForL g u Dd (ds.drop (i + 1)) sl3 Z3.st,
        fun σ' H' z => ⟨ds.length - (i + 1), by omega, rfl, hlt, z⟩, fun v H' y => ?_⟩
      obtain ⟨Z3, l3, ok3, rfl, est, rv⟩ := it.yld Z2 k2 ok2 i v H' _ (List.getElem?_eq_getElem hlt) y
      rw [← est] at w2
      refine ⟨Z3, sl2, .d ds[i], _, rfl, ok3, so2.tr l3, rv, w2, fun σ4 sl4 _ _ so4 w4 => ?_⟩
      have kw := k2.trans l3.stay
      have kv := kz.trans l3.stay
      exact ⟨Z3, sl4, _, rfl, l2.trans l3, ok3, so4, w4, ⟨fun Z5 sl5 σ5 l5 k5 ok5 so5 w5 => ⟨Z5, sl5, rfl, l5, kw.trans k5, ok5, so5, w5⟩, en.rt, en.ex.at kv, fun Z5 sl5 σ5 l5 k5 => en.nx Z5 sl5 σ5 l5 (kv.trans k5), fun Z5 sl5 σ5 l5 k5 ok5 so5 w5 => ⟨Z5, sl5, rfl, l5, kw.trans k5, ok5, so5, w5⟩⟩⟩
    · have e : i = ds.length := by omega
      subst e
      rw [List.drop_length] at w2
      exact .inl ⟨it.stop Z2 k2 ok2, en.nx Z2 sl2 σ2 l2 kz ok2 so2 w2⟩⟩
theorem it_list {tg iter : Expr} {pins : List (Addr × Obj)} {σ : L2.St} {H : Hp} {s : Shared} {R : It → Hp → Prop} {a : Addr} {xs : List V} (I : L2.Inv X pins σ H s) (h : SqL X.K H a xs) (q : R (Itl X.K a) H) : wpAny (model X.prog X.w) X.A (pyIter (.ref a)) (PIE X pins σ tg R) X.xe s := by
  obtain ⟨its, rv, p, hz⟩ := I.list h
  exact wpAny_pyIter_list p.isList (pi_one (tk := s.toks) I _ (turn_list a _) ⟨_, Heap.get?_push_size _ rfl, rfl, rfl⟩ q)
theorem it_tup {tg iter : Expr} {pins : List (Addr × Obj)} {σ : L2.St} {H : Hp} {s : Shared} {R : It → Hp → Prop} {a : Addr} {xs : List V} (I : L2.Inv X pins σ H s) (h : SqT X.K H a xs) (q : R (Itt X.K a) H) : wpAny (model X.prog X.w) X.A (pyIter (.ref a)) (PIE X pins σ tg R) X.xe s := by
  obtain ⟨its, rv, p, hz⟩ := I.tuple h
  exact wpAny_pyIter_tuple (show s.heap.IsTuple a its.toArray from p) (pi_one (tk := s.toks) I _ (turn_tuple a _) ⟨_, Heap.get?_push_size _ rfl, rfl, rfl⟩ q)
theorem it_str {tg iter : Expr} {pins : List (Addr × Obj)} {σ : L2.St} {H : Hp} {s : Shared} {R : It → Hp → Prop} {z : Str} {tk : Tok} (I : L2.Inv X pins σ H s) (q : R (Its z) H) : wpAny (model X.prog X.w) X.A (pyIter (.str z tk)) (PIE X pins σ tg R) X.xe s := by
  cases ha : z.cps.all (· < 128)
  · exact wpAny_pyIter_wide ha (pi_one (tk := s.toks) I _ (turn_str _ z tk "str_iterator" (.inr rfl)) ⟨_, Heap.get?_push_size _ rfl, rfl, rfl⟩ q)
  · exact wpAny_pyIter_ascii ha (pi_one (tk := s.toks) I _ (turn_str _ z tk "str_ascii_iterator" (.inl rfl)) ⟨_, Heap.get?_push_size _ rfl, rfl, rfl⟩ q)
def signs (z : Str) : List PyData := (tl z).map fun c => .str ⟨#[c]⟩
def wItE (te : DE) : DI := fun Ed sl st Q => te Ed sl st fun s st => match s with
  | .d (.list ds) => Q ds st
  | .d (.tuple ds) => Q ds st
  | .d (.str z) => Q (signs z) st
  | _ => False
theorem itd_list {Z1 : Zs} {a : Addr} {xs : List V} {ds : List PyData} (h : Z1.H a = some (.lst xs)) (n : ¬ Z1.W a) (r : Z1.ImAll K xs ds) : ItD K (Itl K a) Z1 ds where
  go := fun Z k ok i hi => ⟨xs, xs[i]'(by rw [r.length]; exact hi), .of (k.f _ _ h n), List.getElem?_eq_getElem _⟩
  stop := fun Z k ok => ⟨xs, .of (k.f _ _ h n), by rw [r.length]; exact Nat.le_refl _⟩
  yld := fun Z k ok i v H' d e y => by
    obtain ⟨rfl, y⟩ := y
    obtain ⟨v', e', r'⟩ := r.get' e
    have := (y xs (.of (k.f _ _ h n))).symm.trans e'
    cases this
    exact ⟨Z, .refl ok, ok, rfl, rfl, Im.tr k r'⟩
theorem itd_tup {Z1 : Zs} {a : Addr} {xs : List V} {ds : List PyData} (h : ImT K Z1.W Z1.H a xs) (r : Z1.ImAll K xs ds) : ItD K (Itt K a) Z1 ds where
  go := fun Z k ok i hi => ⟨xs, xs[i]'(by rw [r.length]; exact hi), (h.tr k).sq, List.getElem?_eq_getElem _⟩
  stop := fun Z k ok => ⟨xs, (h.tr k).sq, by rw [r.length]; exact Nat.le_refl _⟩
  yld := fun Z k ok i v H' d e y => by
    obtain ⟨rfl, y⟩ := y
    obtain ⟨v', e', r'⟩ := r.get' e
    have := (y xs (h.tr k).sq).symm.trans e'
    cases this
    exact ⟨Z, .refl ok, ok, rfl, rfl, Im.tr k r'⟩
theorem itd_str {Z1 : Zs} (z : Str) : ItD K (Its z) Z1 (signs z) where
  go := fun Z k ok i hi => by
    have : i < z.cps.size := by simpa [signs, tl] using hi
    exact this
  stop := fun Z k ok => by
    show z.cps.size ≤ (signs z).length
    simp [signs, tl]
  yld := fun Z k ok i v H' d e y => by
    obtain ⟨rfl, c, ec, rfl⟩ := y
    simp only [signs, List.getElem?_map, tl, Array.getElem?_toList, ec, Option.map_some, Option.some.injEq] at e
    subst e
    exact ⟨Z, .refl ok, ok, rfl, rfl, .str _⟩
theorem di_e {tg : Expr} (he : DEx X E e te) : DIt X E tg e (wItE te) :=
  ⟨⟨fun pins s σ H R I ⟨Z, sl, Rd, Ed, h, ok, so, w, k, kx⟩ => thn (he.run.run pins s σ H (fun v H1 => (∃ a xs, v = .ref a ∧ SqL X.K H1 a xs ∧ R (Itl X.K a) H1) ∨ (∃ a xs, v = .ref a ∧ SqT X.K H1 a xs ∧ R (Itt X.K a) H1) ∨ ∃ z, v = .str z ∧ R (Its z) H1) I ⟨Z, sl, _, Ed, h, ok, so, w, fun Z1 v s l1 ok1 r1 w1 => by
      simp only at w1
      split at w1
      · cases r1 with
        | lst h n r => exact .inl ⟨_, _, rfl, .of h, k Z1 _ _ l1 ok1 (itd_list h n r) w1⟩
      · cases r1 with
        | tup h r => exact .inr (.inl ⟨_, _, rfl, h.sq, k Z1 _ _ l1 ok1 (itd_tup h r) w1⟩)
      · rename_i z
        cases r1
        exact .inr (.inr ⟨z, rfl, k Z1 _ _ l1 ok1 (itd_str z) w1⟩)
      · exact w1.elim, kx⟩) fun v s1 ⟨y, H1, I1, r1, q1⟩ => by
    rcases q1 with ⟨a, xs, rfl, h1, q⟩ | ⟨a, xs, rfl, h1, q⟩ | ⟨z, rfl, q⟩
    · cases r1
      exact it_list (iter := e) I1 h1 q
    · cases r1
      exact it_tup (iter := e) I1 h1 q
    · obtain ⟨tk, rfl⟩ := r1
      exact it_str (iter := e) I1 q⟩⟩
def rng (lo : Int) (n : Nat) : List PyData := (List.range n).map fun i => .int (lo + (i : Nat))
theorem itd_rng {Z1 : Zs} (lo : Int) (n : Nat) : ItD K (Itr lo n) Z1 (rng lo n) where
  go := fun Z k ok i hi => by
    show i < n
    simpa [rng] using hi
  stop := fun Z k ok => by
    show n ≤ _
    simp [rng]
  yld := fun Z k ok i v H' d e y => by
    obtain ⟨rfl, rfl⟩ := y
    have hi : i < n := by
      have := (List.getElem?_eq_some_iff.mp e).1
      simpa [rng] using this
    simp only [rng, List.getElem?_map, List.getElem?_range hi, Option.map_some, Option.some.injEq] at e
    subst e
    exact ⟨Z, .refl ok, ok, rfl, rfl, .int _⟩
def wRng1 (t : DA) : DI := fun Ed sl st Q => t Ed sl st fun ss st => match ss with
  | [s] => match vw st s with
    | some (.int j) => -(2 ^ 62) ≤ j ∧ j < 2 ^ 62 ∧ Q (rng 0 j.toNat) st
    | _ => False
  | _ => False
theorem di_rng1 {tg : Expr} (hg : Gl X "range") (hm : X.mg "range" = none) (ha : DAs X E [a] t) (hs : starEach [a] X.env = [(false, eval a X.env)] := by rfl) : DIt X E tg (.Call (.Name "range" p) [a] [] pos) (wRng1 t) :=
  ⟨piI (pi_range1 hg hm ha.run hs) fun σ H R ⟨Z, sl, Rd, Ed, h, ok, so, w, k, kx⟩ => ⟨Z, sl, _, Ed, h, ok, so, w, fun Z1 vs ss l1 ok1 r1 w1 => by
    simp only at w1
    split at w1
    · obtain ⟨v, rfl, rv⟩ := rp1 r1
      split at w1
      · rename_i j ej
        obtain rfl := rv.int ej
        exact ⟨j, rfl, w1.1, w1.2.1, k Z1 _ _ l1 ok1 (itd_rng 0 j.toNat) w1.2.2⟩
      · exact w1.elim
    · exact w1.elim, kx⟩⟩
def wRng2 (t : DA) : DI := fun Ed sl st Q => t Ed sl st fun ss st => match ss with
  | [s, s'] => match vw st s, vw st s' with
    | some (.int i), some (.int j) => (-(2 ^ 62) ≤ i ∧ i < 2 ^ 62 ∧ -(2 ^ 62) ≤ j ∧ j < 2 ^ 62) ∧ Q (rng i (j - i).toNat) st
    | _, _ => False
  | _ => False
end
end Pz
set_option maxRecDepth 100000
namespace Pz
open PySem PySem.Spec PyProof.Rows L2 TL
variable [TabC]
def wipeS (sl : Sls) : List Nat → Sls
  | [] => sl
  | v :: vs => (wipeS sl vs).set v none
theorem wipe_get (σ : L2.St) : ∀ (vs : List Nat) (j : Nat), (wipe σ vs)[j]? = if j ∈ vs ∧ j < σ.length then some none else σ[j]?
  | [], j => by simp [wipe]
  | v :: vs, j => by
    unfold wipe
    by_cases e : v = j
    · subst e
      by_cases hl : v < σ.length
      · rw [List.getElem?_set_self (by rw [wipe_length]; exact hl), if_pos ⟨by simp, hl⟩]
      · rw [if_neg (fun h => hl h.2), List.getElem?_eq_none (by rw [List.length_set, wipe_length]; omega), List.getElem?_eq_none (by omega)]
    · rw [List.getElem?_set_ne e, wipe_get σ vs j]
      have : j ∈ v :: vs ↔ j ∈ vs := by simp [Ne.symm e]
      simp only [this]
theorem wipe_same {σ τ : L2.St} {vs : List Nat} (hl : τ.length = σ.length) (h : ∀ j, j ∉ vs → τ[j]? = (wipe σ vs)[j]?) : wipe τ vs = wipe σ vs := by
  refine List.ext_getElem? fun j => ?_
  rw [wipe_get τ, wipe_get σ, hl]
  by_cases hj : j ∈ vs
  · by_cases hlt : j < σ.length
    · rw [if_pos ⟨hj, hlt⟩, if_pos ⟨hj, hlt⟩]
    · rw [if_neg (fun h => hlt h.2), if_neg (fun h => hlt h.2), List.getElem?_eq_none (by omega), List.getElem?_eq_none (by omega)]
  · rw [if_neg (fun h => hj h.1), if_neg (fun h => hj h.1), h j hj, wipe_get, if_neg (fun h => hj h.1)]
theorem SlOk.wipe {K : Frag} {Z : Zs} {σ : L2.St} {sl : Sls} (so : SlOk K Z σ sl) : ∀ vs, SlOk K Z (wipe σ vs) (wipeS sl vs)
  | [] => so
  | v :: vs => by
    have ih := SlOk.wipe so vs
    unfold wipeS L2.wipe
    refine ⟨by rw [List.length_set, List.length_set]; exact ih.len, fun i s e => ?_⟩
    by_cases hi : v = i
    · subst hi
      rcases Nat.lt_or_ge v (wipeS sl vs).length with q | q
      · rw [List.getElem?_set_self q] at e; cases e
      · rw [List.getElem?_eq_none (by simpa using q)] at e; cases e
    · rw [List.getElem?_set_ne hi] at e
      obtain ⟨u, q, r⟩ := ih.has i s e
      exact ⟨u, by rw [List.getElem?_set_ne hi]; exact q, r⟩
structure DPt (X : Cx) (E : WXs) (ifs : List Expr) (τ : DT) : Prop where
  run : PTs X ifs (upT X.K E τ)
def wYes : DT := fun _ _ st Q => Q true st
section
variable {X : Cx} {E : WXs} {Z0 : Zs} {a b c e : Expr} {es : List Expr} {ta tb tc te : DE} {t : DA} {pos p : Pos} {x : Str} {K : Frag} {A : DT}
theorem dpt_nil : DPt X E [] wYes := ⟨⟨fun pins s σ H Q I ⟨Z, sl, Qd, Ed, h, ok, so, w, k, kx⟩ => pts_nil.run pins s σ H Q I (by
  subst h
  exact k Z true (.refl ok) ok w)⟩⟩
theorem dpt_one (h : DTs X E c A) : DPt X E [c] A := ⟨pts_one h.run⟩
def wLcL (g : DG) (tt : DT) (te : DE) (sl : Sls) : List PyData → List PyData → Sto → (List PyData → Sto → Prop) → Prop
  | [], acc => fun st Q => Q acc st
  | d :: ds, acc => fun st Q => g (.d d) sl st fun sl2 st => tt (fun _ _ _ _ => False) sl2 st fun b st => if b = true then te (fun _ _ _ _ => False) sl2 st fun s st => match s with
      | .d y => acc.length < sizeLine ∧ wLcL g tt te sl ds (acc ++ [y]) st Q
      | _ => False
    else wLcL g tt te sl ds acc st Q
def wLc (ω : DI) (g : DG) (tt : DT) (te : DE) (vs : List Nat) : DE := fun Ed sl st Q => ω Ed sl st fun ds st => wLcL g tt te (wipeS sl vs) ds [] st fun acc st => Q (.d (.list acc)) st
def wLcO (ω : DI) (g : DG) (tt : DT) (te : DE) (vs : List Nat) : DE := fun Ed sl st Q => ω Ed sl st fun ds st => wLcL g tt te (wipeS sl vs) ds [] st fun acc st => Q (.o st.length) (st ++ [.lst acc])
abbrev Zs.wo (Z : Zs) (F : Addr → Prop) : Zs := ⟨Z.φ, Z.st, Z.H, F⟩
theorem Le.wo {Z Z' : Zs} (l : Le Z Z') (F : Addr → Prop) : Le (Z.wo F) (Z'.wo F) := ⟨l.pre, l.len, l.liv, l.frm, rfl, l.dom⟩
theorem rp_stay {Z Z' : Zs} (s : Stay Z.W Z'.W Z.H Z'.H) (eφ : Z'.φ = Z.φ) (es : Z'.st = Z.st) {v : V} {y : Sl} (r : Rp K Z v y) : Rp K Z' v y := by
  cases y with
  | d x => exact Im.tr s r
  | o h => obtain ⟨a, c, q1, q2, q3, q4⟩ := r; exact ⟨a, c, q1, by rw [eφ]; exact q2, by rw [es]; exact q3, q4⟩
  | r u => exact r
  | l _ _ _ => exact ⟨r.1, r.2.trans s⟩
  | f ns => obtain ⟨a, q1, q2⟩ := r; exact ⟨a, q1, q2.tr s⟩
theorem SlOk.stay {Z Z' : Zs} (s : Stay Z.W Z'.W Z.H Z'.H) (eφ : Z'.φ = Z.φ) (es : Z'.st = Z.st) {σ : L2.St} {sl : Sls} (so : SlOk K Z σ sl) : SlOk K Z' σ sl :=
  ⟨so.len, fun i y e => let ⟨v, q, r⟩ := so.has i y e; ⟨v, q, rp_stay s eφ es r⟩⟩
theorem Ok.stay {Z Z' : Zs} (s : Stay Z.W Z'.W Z.H Z'.H) (eφ : Z'.φ = Z.φ) (es : Z'.st = Z.st) (hH : ∀ a ∈ Z.φ, ∀ o, Z.H a = some o → Z'.H a = some o) (fo : ∀ a, Z'.F a → ∃ o, Z'.H a = some o) (fd : ∀ a ∈ Z.φ, ¬ Z'.F a) (tb : TabOk Z'.W Z'.H) (ok : Ok K Z) : Ok K Z' where
  len := by rw [eφ, es]; exact ok.len
  nd := by rw [eφ]; exact ok.nd
  ct := fun h a c e1 e2 => by
    rw [eφ] at e1
    rw [es] at e2
    exact ctok_st s (fun r => rp_stay s eφ es r) (fun o e _ => hH a (List.mem_of_getElem? e1) o e) (fun o e => ⟨o, hH a (List.mem_of_getElem? e1) o e⟩) (ok.ct h a c e1 e2)
  fo := fo
  fd := by rw [eφ]; exact fd
  tb := tb
theorem mk_new {Z : Zs} {D : Addr} {o : HO} (ok : Ok K Z) (n : Z.H D = none) : Stay Z.W (Zs.mk Z.φ Z.st (upd Z.H D o) fun a => Z.F a ∨ a = D).W Z.H (upd Z.H D o) :=
  ⟨fun b u e _ _ => upd_keep n e, fun b u e nw _ w => by
    rcases w with w | w | w
    · exact nw (.inl w)
    · exact nw (.inr w)
    · subst w; rw [n] at e; cases e⟩
theorem mk_upd {Z : Zs} {D : Addr} {o : HO} (hD : Z.W D) : Stay Z.W (Zs.mk Z.φ Z.st (upd Z.H D o) Z.F).W Z.H (upd Z.H D o) :=
  ⟨fun b u e nw _ => by
    rw [upd_ne (fun z => nw (by subst z; exact hD))]
    exact e, fun b u e nw _ => nw⟩
variable {elt tg iter : Expr} {ifs : List Expr} {scope : Scope} {own : List (Str × Nat)} {ω : DI} {is : List Nat} {g : DG} {tt : DT}
theorem lc_ok {wi : TI} {σ : L2.St} {H : Hp} {Q : VK} (hv : ∀ i ∈ is, i ∈ own.map (·.2)) (own? : Bool)
    (h : upE X.K E (fun Ed sl st Q => ω Ed sl st fun ds st => wLcL g tt te (wipeS sl (own.map (·.2))) ds [] st fun acc st => if own? = true then Q (.o st.length) (st ++ [.lst acc]) else Q (.d (.list acc)) st) σ H Q) :
    tLc (upI X.K E ω) (fun v σ H Q => ∃ (Z : Zs) (sl : Sls) (s : Sl) (Qd : Sls → Sto → Prop), Z.H = H ∧ Ok X.K Z ∧ SlOk X.K Z σ sl ∧ Rp X.K Z v s ∧ g s sl Z.st Qd ∧ ∀ (σ' : L2.St) (sl' : Sls), σ'.length = σ.length → (∀ j : Nat, j ∉ is → σ'[j]? = σ[j]?) → SlOk X.K Z σ' sl' → Qd sl' Z.st → Q σ' Z.H)
      (upT X.K W0 tt) (upE X.K W0 te) (own.map (·.2)) σ H Q := by
  obtain ⟨Z, sl, Qd, Ed, h, ok, so, w, kq, kx⟩ := h
  refine ⟨Z, sl, _, Ed, h, ok, so, w, fun Z1 J ds l1 ok1 it w1 D nD => ?_, kx⟩
  generalize hvs : own.map (·.2) = vs at *
  have so1 := so.tr l1
  have nW1 := ok1.nw nD
  let G : List PyData → Hp → Prop := fun rest H => ∃ (Z2 : Zs) (acc : List PyData) (xs : List V), Z2.H = H ∧ Le Z1 (Z2.wo Z1.F) ∧ Z2.F = (fun a => Z1.F a ∨ a = D) ∧ D ∉ Z2.φ ∧ Kp Z1 Z2 ∧ Ok X.K Z2 ∧ SlOk X.K Z2 σ sl ∧ Z2.H D = some (.lst xs) ∧ Z2.ImAll X.K xs acc ∧
    wLcL g tt te (wipeS sl vs) rest acc Z2.st fun acc st => if own? = true then Qd (.o st.length) (st ++ [.lst acc]) else Qd (.d (.list acc)) st
  refine ⟨fun i m H => m = ds.length - i ∧ i ≤ ds.length ∧ G (ds.drop i) H, ⟨ds.length, by simp, Nat.zero_le _, ?_⟩, ?_⟩
  · have sy := mk_new (o := .lst []) ok1 nD
    refine ⟨Zs.mk Z1.φ Z1.st (upd Z1.H D (.lst [])) fun a => Z1.F a ∨ a = D, [], [], rfl, ⟨⟨[], by simp, fun _ h => by cases h⟩, ok1.len.symm, fun h c e => ⟨c, e, Iff.rfl⟩, fun a u e _ _ => upd_keep nD e, rfl, fun a u e => ⟨u, upd_keep nD e⟩⟩, rfl, ok1.fresh nD, sy, ?_, so1.stay sy rfl rfl, upd_same, .nil, w1⟩
    refine ok1.stay sy rfl rfl (fun a m u e => upd_keep nD e) (fun a f => ?_) (fun a m f => ?_) ?_
    · rcases f with f | f
      · obtain ⟨u, e⟩ := ok1.fo a f
        exact ⟨u, upd_keep nD e⟩
      · subst f
        exact ⟨_, upd_same⟩
    · rcases f with f | f
      · exact ok1.fd a m f
      · subst f
        exact ok1.fresh nD m
    · refine tabs_new ok1.tb nD fun x w => ?_
      rcases w with w | w | w
      · exact .inl (.inl w)
      · exact .inl (.inr w)
      · subst w; exact .inr nD
  rintro i m H2 ⟨rfl, hi, Z2, acc, xs, rfl, l2, eF, nφ, k2, ok2, so2, hD, rx, w2⟩
  by_cases hlt : i < ds.length
  · rw [List.drop_eq_getElem_cons hlt] at w2
    refine .inr ⟨it.go Z2 k2 ok2 i hlt, fun H' => G (ds.drop (i + 1)) H', fun H' z => ⟨ds.length - (i + 1), by omega, rfl, hlt, z⟩, fun v H' y => ?_⟩
    obtain ⟨Z3, l3, ok3, rfl, est, rv⟩ := it.yld Z2 k2 ok2 i v H' _ (List.getElem?_eq_getElem hlt) y
    rw [← est] at w2
    have keep : ∀ {Z4 : Zs}, Le Z2 Z4 → Z4.H D = some (.lst xs) ∧ D ∉ Z4.φ ∧ Z4.F = (fun a => Z1.F a ∨ a = D) ∧ Le Z1 (Z4.wo Z1.F) ∧ Kp Z1 Z4 ∧ SlOk X.K Z4 σ sl ∧ Z4.ImAll X.K xs acc := fun {Z4} l4 => by
      refine ⟨l4.frm D _ hD (fun z => nφ z.mem) (fun _ z => nomatch z), fun z => ?_, l4.fgn.trans eF, l2.trans (l4.wo _), k2.trans l4.stay, so2.tr l4, ImAll.tr l4.stay rx⟩
      obtain ⟨ψ, e, hn⟩ := l4.pre
      rw [e] at z
      rcases List.mem_append.mp z with z | z
      · exact nφ z
      · have := hn D z
        rw [hD] at this
        cases this
    obtain ⟨d3, n3, f3, q3, k3, s3, i3⟩ := keep l3
    refine ⟨Z3, wipeS sl vs, .d ds[i], _, rfl, ok3, s3.wipe vs, rv, w2, fun σ' sl' e1 e2 so4 w4 => ?_⟩
    refine ⟨wipe_same (by rw [e1, wipe_length]) fun j hj => e2 j fun z => hj (hv j z), ?_⟩
    refine ⟨Z3, sl', _, _, rfl, ok3, so4, w4, fun Z4 b l4 ok4 w5 => ?_, fun _ _ _ _ _ _ _ _ _ _ _ _ z => z⟩
    cases b with
    | false =>
      obtain ⟨d4, n4, f4, q4, k4, s4, i4⟩ := keep (l3.trans l4)
      exact ⟨Z4, acc, xs, rfl, q4, f4, n4, k4, ok4, s4, d4, i4, w5⟩
    | true =>
      refine ⟨Z4, sl', _, _, rfl, ok4, so4.tr l4, w5, fun Z5 u s l5 ok5 r5 w6 => ?_, fun _ _ _ _ _ _ _ _ _ _ _ _ z => z⟩
      obtain ⟨d5, n5, f5, q5, k5, s5, i5⟩ := keep ((l3.trans l4).trans l5)
      simp only at w6
      split at w6
      · rename_i y
        have wD : Z5.W D := .inr (by rw [f5]; exact .inr rfl)
        have sy := mk_upd (o := .lst (xs ++ [u])) wD
        refine ⟨xs, d5, by rw [i5.length]; exact w6.1, Zs.mk Z5.φ Z5.st (upd Z5.H D (.lst (xs ++ [u]))) Z5.F, acc ++ [y], xs ++ [u], rfl, ?_, f5, n5, k5.trans sy, ?_, s5.stay sy rfl rfl, upd_same, (ImAll.tr sy i5).append (.cons (Im.tr sy r5) .nil), w6.2⟩
        · refine ⟨q5.pre, q5.len, q5.liv, fun a o e na nt => ?_, rfl, fun a o e => ?_⟩
          · have ne : a ≠ D := fun z => by subst z; rw [nD] at e; cases e
            show upd Z5.H D _ a = _
            rw [upd_ne ne]
            exact q5.frm a o e na nt
          · have ne : a ≠ D := fun z => by subst z; rw [nD] at e; cases e
            obtain ⟨o', e'⟩ := q5.dom a o e
            exact ⟨o', by show upd Z5.H D _ a = _; rw [upd_ne ne]; exact e'⟩
        · refine ok5.stay sy rfl rfl (fun a m o e => ?_) (fun a f => ?_) ok5.fd (tabs_upd ok5.tb (fun _ z => by rw [d5] at z; cases z) (fun _ _ z => by rw [d5] at z; cases z) (fun x w => .inl w))
          · show upd Z5.H D _ a = _
            rw [upd_ne (fun z => n5 (by subst z; exact m))]
            exact e
          · by_cases ne : a = D
            · subst ne; exact ⟨_, upd_same⟩
            · obtain ⟨o, e⟩ := ok5.fo a f
              exact ⟨o, by show upd Z5.H D _ a = _; rw [upd_ne ne]; exact e⟩
      · exact w6.elim
  · have ei : i = ds.length := by omega
    subst ei
    rw [List.drop_length] at w2
    refine .inl ⟨it.stop Z2 k2 ok2, ?_⟩
    have sy : Stay Z2.W (Z2.wo Z1.F).W Z2.H Z2.H := Stay.less fun a w => by
      rcases w with w | w
      · exact .inl w
      · exact .inr (by rw [eF]; exact .inl w)
    have okE : Ok X.K (Z2.wo Z1.F) := ok2.stay sy rfl rfl (fun a _ o e => e) (fun a f => by
      obtain ⟨o, e⟩ := ok1.fo a f
      exact l2.dom a o e) (fun a m f => ok2.fd a m (by rw [eF]; exact .inl f)) (ok2.tb.less fun a w => by
      rcases w with w | w
      · exact .inl w
      · exact .inr (by rw [eF]; exact .inl w))
    have nwD : ¬ (Z2.wo Z1.F).W D := fun w => by
      rcases w with w | w
      · exact nφ w.mem
      · exact nW1 (.inr w)
    have w2' : if own? = true then Qd (.o Z2.st.length) (Z2.st ++ [.lst acc]) else Qd (.d (.list acc)) Z2.st := w2
    cases own? with
    | false => exact kq (Z2.wo Z1.F) (.ref D) (.d (.list acc)) (l1.trans l2) okE (Im.lst hD nwD (ImAll.tr sy rx)) w2'
    | true =>
      rw [if_pos rfl] at w2'
      have hl := ok2.len
      refine kq (Zs.mk (Z2.φ ++ [D]) (Z2.st ++ [.lst acc]) Z2.H Z1.F) (.ref D) (.o Z2.st.length) (l1.trans ?_) ?_ ⟨D, .lst acc, rfl, ?_, ?_, trivial⟩ w2'
      · obtain ⟨ψ, e, hn⟩ := l2.pre
        refine ⟨⟨ψ ++ [D], by show Z2.φ ++ [D] = _; rw [show Z2.φ = Z1.φ ++ ψ from e, List.append_assoc], fun a m => ?_⟩, l2.len, fun h c e => ?_, l2.frm, rfl, l2.dom⟩
        · rcases List.mem_append.mp m with m | m
          · exact hn a m
          · have : a = D := by simpa using m
            subst this; exact nD
        · obtain ⟨c', q1, q2⟩ := l2.liv h c e
          exact ⟨c', by show (Z2.st ++ _)[h]? = _; rw [List.getElem?_append_left (List.getElem?_eq_some_iff.mp q1).1]; exact q1, q2⟩
      · have hW2 : ∀ a, (Zs.mk (Z2.φ ++ [D]) (Z2.st ++ [.lst acc]) Z2.H Z1.F).W a → Z2.W a := fun a w => by
          rcases w with ⟨j, c', p1, p2, p3⟩ | w
          · rcases app1_get (show (Z2.φ ++ [D])[j]? = some a from p1) with p1 | ⟨p1, z1⟩
            · rcases app1_get (show (Z2.st ++ [Ct.lst acc])[j]? = some c' from p2) with p2 | ⟨p2, z2⟩
              · exact .inl ⟨j, c', p1, p2, p3⟩
              · have := (List.getElem?_eq_some_iff.mp p1).1
                omega
            · subst z1
              exact .inr (by rw [eF]; exact .inr rfl)
          · exact .inr (by rw [eF]; exact .inl w)
        have sy2 : Stay Z2.W (Zs.mk (Z2.φ ++ [D]) (Z2.st ++ [.lst acc]) Z2.H Z1.F).W Z2.H Z2.H := Stay.less hW2
        have rp2 : ∀ {v : V} {y : Sl}, Rp X.K Z2 v y → Rp X.K (Zs.mk (Z2.φ ++ [D]) (Z2.st ++ [.lst acc]) Z2.H Z1.F) v y := fun {v y} r => by
          cases y with
          | d x => exact Im.tr sy2 r
          | o h =>
            obtain ⟨a, c, q1, q2, q3, q4⟩ := r
            exact ⟨a, c, q1, by show (Z2.φ ++ _)[h]? = _; rw [List.getElem?_append_left (List.getElem?_eq_some_iff.mp q2).1]; exact q2, by show (Z2.st ++ _)[h]? = _; rw [List.getElem?_append_left (List.getElem?_eq_some_iff.mp q3).1]; exact q3, q4⟩
          | r u => exact r
          | l _ _ _ => exact ⟨r.1, r.2.trans sy2⟩
          | f ns => obtain ⟨a, q1, q2⟩ := r; exact ⟨a, q1, q2.tr sy2⟩
        refine ⟨?_, List.nodup_append.mpr ⟨ok2.nd, by simp, fun a ha b hb z => ?_⟩, fun h a c e1 e2 => ?_, okE.fo, fun a m f => ?_, ok2.tb.less hW2⟩
        · show (Z2.φ ++ [D]).length = (Z2.st ++ [Ct.lst acc]).length
          rw [List.length_append, List.length_append, hl]
          rfl
        · have : b = D := by simpa using hb
          subst this z
          exact nφ ha
        · rcases app1_get (show (Z2.φ ++ [D])[h]? = some a from e1) with e1 | ⟨e1, z1⟩
          · rcases app1_get (show (Z2.st ++ [Ct.lst acc])[h]? = some c from e2) with e2 | ⟨e2, z2⟩
            · exact ctok_st sy2 rp2 (fun _ e _ => e) (fun o e => ⟨o, e⟩) (ok2.ct h a c e1 e2)
            · have := (List.getElem?_eq_some_iff.mp e1).1
              omega
          · rcases app1_get (show (Z2.st ++ [Ct.lst acc])[h]? = some c from e2) with e2 | ⟨e2, z2⟩
            · have := (List.getElem?_eq_some_iff.mp e2).1
              omega
            · subst z1 z2
              exact ⟨xs, hD, ImAll.tr sy2 rx⟩
        · rcases List.mem_append.mp (show a ∈ Z2.φ ++ [D] from m) with m | m
          · exact okE.fd a m f
          · have : a = D := by simpa using m
            subst this
            obtain ⟨o, e⟩ := ok1.fo a f
            rw [nD] at e; cases e
      · show (Z2.φ ++ [D])[Z2.st.length]? = _
        rw [← hl, List.getElem?_append_right (Nat.le_refl _)]
        simp
      · show (Z2.st ++ [Ct.lst acc])[Z2.st.length]? = _
        rw [List.getElem?_append_right (Nat.le_refl _)]
        simp
theorem de_lc (hc : X.calm = true) (hN : X.N.Nodup) (hi : DIt X E tg iter ω) (ok : BlkOk X.N X.env.scope scope own) (hv : ∀ i ∈ is, i ∈ own.map (·.2))
    (hg : ∀ (s : Shared) (H : Hp) (C : Addr) (cl : List (Str × Addr)) (fp : List Addr), DGt (X.blk s H scope (compEnvC scope cl C X.env) fp) tg is g) (ht : ∀ (s : Shared) (H : Hp) (C : Addr) (cl : List (Str × Addr)) (fp : List Addr), DPt (X.blk s H scope (compEnvC scope cl C X.env) fp) W0 ifs tt)
    (he : ∀ (s : Shared) (H : Hp) (C : Addr) (cl : List (Str × Addr)) (fp : List Addr), DEx (X.blk s H scope (compEnvC scope cl C X.env) fp) W0 elt te) (hs : ∀ x, foldedSetIterable iter X.env x = pure x := by intro _; rfl) : DEx X E (.ListComp elt [⟨tg, iter, ifs, 0⟩] scope pos) (wLc ω g tt te (own.map (·.2))) :=
  ⟨peI (pe_lc hc hN hi.run ok (fun s H C cl fp => (hg s H C cl fp).run) (fun s H C cl fp => (ht s H C cl fp).run) (fun s H C cl fp => (he s H C cl fp).run) hs) fun σ H Q h => lc_ok (wi := fun _ _ _ => True) hv false h⟩
theorem setLc_ok {st : Stmt} {wi : TE} {te : DE} {i : Nat} (h : PS X st (tAsg wi (gName i))) (hh : ∀ σ H Q, upE X.K E te σ H Q → wi σ H Q) : DSt X E Z0 st (wSet i te) :=
  ⟨psI h fun D σ H ⟨Z, sl, Dd, h, l0, ok, so, w, en⟩ => hh _ _ _ ⟨Z, sl, _, Dd.ex, h, ok, so, w, fun Z1 v s l1 ok1 r1 w1 => en.nx Z1 (sl.set i (some s)) _ (l0.trans l1) l1.stay ok1 ((so.tr l1).set i r1) w1, en.ex.le l0⟩⟩
theorem ds_setLc (i : Nat) {y : Str} {py spos : Pos} (hc : X.calm = true) (hN : X.N.Nodup) (hi : DIt X E tg iter ω) (ok : BlkOk X.N X.env.scope scope own) (hv : ∀ i ∈ is, i ∈ own.map (·.2))
    (hg : ∀ (s : Shared) (H : Hp) (C : Addr) (cl : List (Str × Addr)) (fp : List Addr), DGt (X.blk s H scope (compEnvC scope cl C X.env) fp) tg is g) (ht : ∀ (s : Shared) (H : Hp) (C : Addr) (cl : List (Str × Addr)) (fp : List Addr), DPt (X.blk s H scope (compEnvC scope cl C X.env) fp) W0 ifs tt)
    (he : ∀ (s : Shared) (H : Hp) (C : Addr) (cl : List (Str × Addr)) (fp : List Addr), DEx (X.blk s H scope (compEnvC scope cl C X.env) fp) W0 elt te) (hsw : swapsWith (.ListComp elt [⟨tg, iter, ifs, 0⟩] scope pos) (some (.Name y py)) spos.line X.env = pure true)
    (hs : ∀ x, foldedSetIterable iter X.env x = pure x := by intro _; rfl) (hy : X.N[i]? = some y := by rfl) (hyl : X.env.scope.names.lookup y = some .local := by rfl) : DSt X E Z0 (.Assign [.Name y py] (.ListComp elt [⟨tg, iter, ifs, 0⟩] scope pos) spos) (wSet i (wLc ω g tt te (own.map (·.2)))) :=
  setLc_ok (ps_setLc hc hN hy hyl hsw hi.run ok (fun s H C cl fp => (hg s H C cl fp).run) (fun s H C cl fp => (ht s H C cl fp).run) (fun s H C cl fp => (he s H C cl fp).run) hs) fun σ H Q h => lc_ok (wi := fun _ _ _ => True) hv false h
end
end Pz
set_option maxRecDepth 100000
namespace Pz
open PySem PySem.Spec PyProof.Rows L2 TL
variable [TabC]
section
variable {K : Frag} {Z : Zs} {h : Nat} {a : Addr} {c c' : Ct} {o : HO}
def Zs.put (Z : Zs) (h : Nat) (a : Addr) (o : HO) (c : Ct) : Zs := ⟨Z.φ, Z.st.set h c, upd Z.H a o, Z.F⟩
theorem Ok.one (ok : Ok K Z) {i j : Nat} (e1 : Z.φ[i]? = some a) (e2 : Z.φ[j]? = some a) : i = j := by
  have l1 := (List.getElem?_eq_some_iff.mp e1).1
  have l2 := (List.getElem?_eq_some_iff.mp e2).1
  rw [List.getElem?_eq_getElem l1] at e1
  rw [List.getElem?_eq_getElem l2] at e2
  exact (List.getElem_inj ok.nd).mp ((Option.some.inj e1).trans (Option.some.inj e2).symm)
theorem Ok.lePut (ok : Ok K Z) (e1 : Z.φ[h]? = some a) (e2 : Z.st[h]? = some c) (lv : c.live) (lv' : c'.live) : Le Z (Z.put h a o c') where
  pre := ⟨[], by simp [Zs.put], fun _ h => by cases h⟩
  len := ok.len.symm
  liv := fun j d e => by
    show ∃ d', (Z.st.set h c')[j]? = some d' ∧ _
    by_cases z : h = j
    · subst z
      rw [e2] at e
      cases e
      exact ⟨c', List.getElem?_set_self (List.getElem?_eq_some_iff.mp e2).1, ⟨fun _ => lv', fun _ => lv⟩⟩
    · exact ⟨d, by rw [List.getElem?_set_ne z]; exact e, Iff.rfl⟩
  frm := fun b u e nb _ => by
    show upd Z.H a o b = _
    rw [upd_ne (fun z => nb (by subst z; exact ⟨h, c, e1, e2, lv⟩))]
    exact e
  fgn := rfl
  dom := fun b u e => by
    show ∃ o', upd Z.H a o b = some o'
    by_cases z : b = a
    · subst z; exact ⟨_, upd_same⟩
    · exact ⟨u, by rw [upd_ne z]; exact e⟩
theorem Ok.put (ok : Ok K Z) (e1 : Z.φ[h]? = some a) (e2 : Z.st[h]? = some c) (lv : c.live) (lv' : c'.live) (new : CtOk K (Z.put h a o c') a c') (hw : c.wr := by trivial) (ho : NotTbl o := by exact fun _ z => nomatch z) : Ok K (Z.put h a o c') where
  len := by show Z.φ.length = (Z.st.set h c').length; rw [List.length_set]; exact ok.len
  nd := ok.nd
  ct := fun j b d q1 q2 => by
    have q1' : Z.φ[j]? = some b := q1
    have q2' : (Z.st.set h c')[j]? = some d := q2
    by_cases z : h = j
    · subst z
      rw [List.getElem?_set_self (List.getElem?_eq_some_iff.mp e2).1] at q2'
      cases q2'
      rw [e1] at q1'
      cases q1'
      exact new
    · rw [List.getElem?_set_ne z] at q2'
      have l := ok.lePut (o := o) e1 e2 lv lv'
      refine ctok_st l.stay (fun r => r.tr l) (fun u e _ => ?_) (fun u e => l.dom b u e) (ok.ct j b d q1' q2')
      show upd Z.H a o b = _
      rw [upd_ne (fun y => z (by subst y; exact ok.one e1 q1'))]
      exact e
  fo := fun b f => by
    obtain ⟨u, e⟩ := ok.fo b f
    exact (ok.lePut (o := o) (c' := c') e1 e2 lv lv').dom b u e
  fd := ok.fd
  tb := by
    have q := ok.ct h a c e1 e2
    refine tabs_upd ok.tb (fun ps z => ?_) (fun c0 q0 z => ?_) (ok.lePut (o := o) e1 e2 lv lv').w ho (fun xs e _ => new.notup lv' xs (by rw [← e]; exact upd_same))
    · cases c with
      | lst ds => obtain ⟨vs, z1, _⟩ := q; rw [z1] at z; cases z
      | lsS ds => obtain ⟨vs, z1, _⟩ := q; rw [z1] at z; cases z
      | dK kvs => obtain ⟨vs, z1, _⟩ := q; rw [z1] at z; cases z
      | dT kvs => obtain ⟨vs, z1, _⟩ := q; rw [z1] at z; cases z
      | ins C fs => obtain ⟨dx, us, z1, _⟩ := q; rw [z1] at z; cases z
      | exc c fs => exact hw.elim
      | dead => exact hw.elim
    · unfold LamX.CodeO at z
      cases c with
      | lst ds => obtain ⟨vs, z1, _⟩ := q; rw [z1] at z; cases z
      | lsS ds => obtain ⟨vs, z1, _⟩ := q; rw [z1] at z; cases z
      | dK kvs => obtain ⟨vs, z1, _⟩ := q; rw [z1] at z; cases z
      | dT kvs => obtain ⟨vs, z1, _⟩ := q; rw [z1] at z; cases z
      | ins C fs => obtain ⟨dx, us, z1, _⟩ := q; rw [z1] at z; cases z
      | exc c fs => exact hw.elim
      | dead => exact hw.elim
theorem KOk.putL {Qd : DK} {Q : VK} {v : V} {s : Sl} {ds : List PyData} {xs : List V} (k : KOk K Z Qd Q) (ok : Ok K Z) (e1 : Z.φ[h]? = some a) (e2 : Z.st[h]? = some c) (lw : c.wr) (r : Z.ImAll K xs ds) (rv : ∀ {Z' : Zs}, Le Z Z' → Rp K Z' v s) (q : Qd s (Z.st.set h (.lst ds))) : Q v (upd Z.H a (.lst xs)) := by
  have lv : c.live := lw.live
  have l := ok.lePut (o := .lst xs) (c' := .lst ds) e1 e2 lv trivial
  exact k (Z.put h a (.lst xs) (.lst ds)) v s l (ok.put e1 e2 lv trivial ⟨xs, upd_same, ImAll.tr l.stay r⟩ lw) (rv l) q
theorem Rp.hl (ok : Ok K Z) {v : V} {h : Nat} {ds : List PyData} (r : Rp K Z v (.o h)) (e : Z.st[h]? = some (.lst ds)) : ∃ a xs, v = .ref a ∧ Z.φ[h]? = some a ∧ Z.H a = some (.lst xs) ∧ Z.ImAll K xs ds := by
  obtain ⟨a, c, ev, e1, e2, e3⟩ := r
  rw [e] at e2
  cases e2
  obtain ⟨xs, q, r⟩ := ok.ct h a _ e1 e
  exact ⟨a, xs, ev, e1, q, r⟩
end
section
variable {X : Cx} {E : WXs} {Z0 : Zs} {e ob ix : Expr} {es : List Expr} {to ti te : DE} {t : DA} {pos cpos apos tpos : Pos} {x name : Str} {K : Frag} {T id : String}
abbrev FM := Sl → List Sl → Sto → DK → Prop
def MetD (K : Frag) (r : V → List V → Hp → VK → Prop) (f : FM) : Prop := ∀ (Z : Zs) (v : V) (s : Sl) (vs : List V) (ss : List Sl) (Qd : DK) (Q : VK), Ok K Z → Rp K Z v s → RpAll K Z vs ss → f s ss Z.st Qd → KOk K Z Qd Q → r v vs Z.H Q
def tyD (T : String) (st : Sto) (s : Sl) : Prop := match vw st s with
  | some (.list _) => T = "list"
  | some (.str _) => T = "str"
  | _ => False
theorem tyD_ok {Z : Zs} (ok : Ok K Z) {v : V} {s : Sl} (r : Rp K Z v s) (h : tyD T Z.st s) : tyV K T v Z.H := by
  unfold tyD at h
  split at h
  · rename_i ds e
    obtain ⟨a, xs, rfl, q, _⟩ := r.list ok e
    exact .inl ⟨h, xs, .of q⟩
  · rename_i z e
    obtain rfl := r.str e
    exact h
  · exact h.elim
def wBM (T : String) (f : FM) (to : DE) (t : DA) : DE := fun Ed sl st Q => to Ed sl st fun s st => tyD T st s ∧ t Ed sl st fun ss st => f s ss st Q
theorem de_bm {r : V → List V → Hp → VK → Prop} {f : FM} (hd : MetD X.K r f) (pa : PlainAttrs T) (slot : Slot T name id) (hty : typeOf (.builtin id) = pure (.type "method_descriptor")) (hm : MtR X id r) (ho : DEx X E ob to) (ha : DAs X E (e :: es) t)
    (hbase : attributeBase ob name X.env (eval ob X.env) = eval ob X.env := by rfl)
    (hfew : ((backTo cpos (starEach (e :: es) X.env)).all (fun x => !x.1) && (backToKw cpos (keywordEach [] X.env)).all (fun x => x.1.isSome)
      && decide ((e :: es).length + ([] : List Keyword).length + (if ([] : List Keyword).isEmpty then 0 else 1) < 30)) = true := by rfl)
    (hline : (apos.endLine == cpos.line) = true := by rfl) (hs : starEach (e :: es) X.env = (false, eval e X.env) :: starEach es X.env := by rfl) (hplain : (backTo cpos (starEach es X.env)).any (·.1) = false := by rfl) :
    DEx X E (.Call (.Attribute ob name apos) (e :: es) [] cpos) (wBM T f to t) :=
  ⟨peI (pe_bm pa slot hty hm ho.run ha.run hbase hfew hline hs hplain) fun σ H Q ⟨Z, sl, Qd, Ed, h, ok, so, w, k, kx⟩ =>
    ⟨Z, sl, _, Ed, h, ok, so, w, fun Z1 v s l1 ok1 r1 w1 => ⟨tyD_ok ok1 r1 w1.1, Z1, sl, _, Ed, rfl, ok1, so.tr l1, w1.2, fun Z2 vs ss l2 ok2 r2 w2 => hd Z2 v s vs ss Qd Q ok2 (r1.tr l2) r2 w2 (k.le (l1.trans l2)), kx.le l1⟩, kx⟩⟩
def mAppend : FM := fun s ss st Q => match s, ss with
  | .o h, [.d y] => match st[h]? with
    | some (.lst ds) => ds.length < sizeLine ∧ Q (.d .none) (st.set h (.lst (ds ++ [y])))
    | _ => False
  | _, _ => False
theorem md_append : MetD K rAppend mAppend := by
  intro Z v s vs ss Qd Q ok rs ra w k
  unfold mAppend at w
  split at w
  · split at w
    · rename_i ds e
      obtain ⟨a, xs, rfl, e1, q, r⟩ := rs.hl ok e
      obtain ⟨u, rfl, ru⟩ := rp1 ra
      exact ⟨a, xs, u, rfl, rfl, q, by rw [r.length]; exact w.1, k.putL ok e1 e trivial (r.append (.cons ru .nil)) (s := .d .none) (fun _ => Im.non) w.2⟩
    · exact w.elim
  · exact w.elim
def mExtend : FM := fun s ss st Q => match s, ss with
  | .o h, [y] => match st[h]?, vw st y with
    | some (.lst ds), some (.list zs) => ds.length + zs.length ≤ sizeLine ∧ Q (.d .none) (st.set h (.lst (ds ++ zs)))
    | _, _ => False
  | _, _ => False
theorem md_extend : MetD K rExtend mExtend := by
  intro Z v s vs ss Qd Q ok rs ra w k
  unfold mExtend at w
  split at w
  · split at w
    · rename_i ds zs e ez
      obtain ⟨a, xs, rfl, e1, q, r⟩ := rs.hl ok e
      obtain ⟨u, rfl, ru⟩ := rp1 ra
      obtain ⟨b, ys, rfl, q2, r2⟩ := ru.list ok ez
      exact ⟨a, b, xs, ys, rfl, rfl, q, q2, by rw [r.length, r2.length]; exact w.1, k.putL ok e1 e trivial (r.append r2) (s := .d .none) (fun _ => Im.non) w.2⟩
    · exact w.elim
  · exact w.elim
def mPop : FM := fun s ss st Q => match s, ss with
  | .o h, [] => match st[h]? with
    | some (.lst ds) => match ds[ds.length - 1]? with
      | some d => Q (.d d) (st.set h (.lst ds.dropLast))
      | none => False
    | _ => False
  | _, _ => False
def mReverse : FM := fun s ss st Q => match s, ss with
  | .o h, [] => match st[h]? with
    | some (.lst ds) => Q (.d .none) (st.set h (.lst ds.reverse))
    | _ => False
  | _, _ => False
def wSetIx (te to ti : DE) : DS := fun D sl st => te D.ex sl st fun v st => to D.ex sl st fun o st => ti D.ex sl st fun i st => match o, v, i with
  | .o h, .d y, .d (.int j) => match st[h]? with
    | some (.lst ds) => match ixN ds.length j with
      | some n => D.nx sl (st.set h (.lst (ds.set n y)))
      | none => False
    | _ => False
  | _, _, _ => False
def frzS (h : Nat) (ds : List PyData) : Option Sl → Option Sl
  | some (.o j) => if j = h then some (.d (.list ds)) else some (.o j)
  | s => s
def NoRef (h : Nat) : Ct → Prop
  | .ins _ fs => ∀ p ∈ fs, p.2 ≠ .o h
  | .lsS xs => ∀ x ∈ xs, x ≠ .o h
  | _ => True
def wFrz (n0 i : Nat) (u : DS) : DS := fun D sl st => match nthS sl i with
  | some (.o h) => match st[h]? with
    | some (.lst ds) => n0 ≤ h ∧ (∀ c ∈ st, NoRef h c) ∧ u D (sl.map (frzS h ds)) (st.set h .dead)
    | _ => False
  | _ => u D sl st
theorem frz_ok {Z : Zs} {σ : L2.St} {sl : Sls} {h : Nat} {ds : List PyData} (ok : Ok K Z) (so : SlOk K Z σ sl) (l0 : Le Z0 Z) (hn : Z0.st.length ≤ h) (e : Z.st[h]? = some (.lst ds)) (nr : ∀ c ∈ Z.st, NoRef h c) :
    ∃ Z' : Zs, Z'.H = Z.H ∧ Z'.st = Z.st.set h .dead ∧ Le Z0 Z' ∧ Kp Z Z' ∧ Ok K Z' ∧ SlOk K Z' σ (sl.map (frzS h ds)) := by
  have hh : h < Z.st.length := (List.getElem?_eq_some_iff.mp e).1
  have hφ : h < Z.φ.length := by rw [ok.len]; exact hh
  have e1 : Z.φ[h]? = some Z.φ[h] := List.getElem?_eq_getElem hφ
  obtain ⟨xs, eH, rx⟩ := ok.ct h _ _ e1 e
  have hW : ∀ a, (Zs.mk Z.φ (Z.st.set h .dead) Z.H Z.F).W a → Z.W a := fun a w => by
    rcases w with ⟨j, c, q1, q2, q3⟩ | w
    · have q2' : (Z.st.set h .dead)[j]? = some c := q2
      by_cases z : h = j
      · subst z
        rw [List.getElem?_set_self hh] at q2'
        cases q2'
        exact q3.elim
      · rw [List.getElem?_set_ne z] at q2'
        exact .inl ⟨j, c, q1, q2', q3⟩
    · exact .inr w
  have sy : Stay Z.W (Zs.mk Z.φ (Z.st.set h .dead) Z.H Z.F).W Z.H Z.H := Stay.less hW
  have nw : ¬ (Zs.mk Z.φ (Z.st.set h .dead) Z.H Z.F).W Z.φ[h] := fun w => by
    rcases w with ⟨j, c, q1, q2, q3⟩ | w
    · have q2' : (Z.st.set h .dead)[j]? = some c := q2
      obtain rfl := ok.one e1 q1
      rw [List.getElem?_set_self hh] at q2'
      cases q2'
      exact q3
    · exact ok.fd _ (List.getElem_mem hφ) w
  have rp : ∀ {v : V} {y : Sl}, y ≠ .o h → Rp K Z v y → Rp K (Zs.mk Z.φ (Z.st.set h .dead) Z.H Z.F) v y := fun {v y} ne r => by
    cases y with
    | d x => exact Im.tr sy r
    | o j =>
      obtain ⟨a, c, q1, q2, q3, q4⟩ := r
      exact ⟨a, c, q1, q2, by show (Z.st.set h _)[j]? = _; rw [List.getElem?_set_ne (fun z => ne (by rw [z]))]; exact q3, q4⟩
    | r u => exact r
    | l _ _ _ => exact ⟨r.1, r.2.trans sy⟩
    | f ns => obtain ⟨a, q1, q2⟩ := r; exact ⟨a, q1, q2.tr sy⟩
  refine ⟨Zs.mk Z.φ (Z.st.set h .dead) Z.H Z.F, rfl, rfl, ⟨l0.pre, l0.len, fun j c ec => ?_, l0.frm, l0.fgn, l0.dom⟩, sy, ⟨?_, ok.nd, fun j a c q1 q2 => ?_, ok.fo, ok.fd, ok.tb.less hW⟩, ?_⟩
  · obtain ⟨c', p1, p2⟩ := l0.liv j c ec
    have hj : j < Z0.st.length := (List.getElem?_eq_some_iff.mp ec).1
    exact ⟨c', by show (Z.st.set h _)[j]? = _; rw [List.getElem?_set_ne (by omega)]; exact p1, p2⟩
  · show Z.φ.length = (Z.st.set h .dead).length
    rw [List.length_set]
    exact ok.len
  · have q1' : Z.φ[j]? = some a := q1
    have q2' : (Z.st.set h .dead)[j]? = some c := q2
    by_cases z : h = j
    · subst z
      rw [List.getElem?_set_self hh] at q2'
      cases q2'
      rw [e1] at q1'
      cases q1'
      show Z.H _ ≠ none
      rw [eH]
      exact fun z => by cases z
    · rw [List.getElem?_set_ne z] at q2'
      have q := ok.ct j a c q1' q2'
      have n := nr c (List.mem_of_getElem? q2')
      cases c with
      | lst ds => obtain ⟨vs, r1, r2⟩ := q; exact ⟨vs, r1, ImAll.tr sy r2⟩
      | lsS xs =>
        obtain ⟨us, r1, r3⟩ := q
        refine ⟨us, r1, ?_⟩
        have all : ∀ {vs : List V} {ss : List Sl}, (∀ s ∈ ss, s ≠ .o h) → RpAll K Z vs ss → RpAll K (Zs.mk Z.φ (Z.st.set h .dead) Z.H Z.F) vs ss := by
          intro vs ss hss r
          induction r with
          | nil => exact .nil
          | cons p r ih => exact .cons (rp (hss _ List.mem_cons_self) p) (ih fun x m => hss x (List.mem_cons_of_mem _ m))
        exact all n r3
      | dK kvs => obtain ⟨vs, r1, r2, r3⟩ := q; exact ⟨vs, r1, r2, ImAll.tr sy r3⟩
      | dT kvs => obtain ⟨vs, r1, r2, r3⟩ := q; exact ⟨vs, r1, r2, ImAll.tr sy r3⟩
      | ins C fs =>
        obtain ⟨dx, us, r1, r2, r3⟩ := q
        refine ⟨dx, us, r1, r2, ?_⟩
        have all : ∀ {vs : List V} {ss : List Sl}, (∀ s ∈ ss, s ≠ .o h) → RpAll K Z vs ss → RpAll K (Zs.mk Z.φ (Z.st.set h .dead) Z.H Z.F) vs ss := by
          intro vs ss hss r
          induction r with
          | nil => exact .nil
          | cons p r ih => exact .cons (rp (hss _ List.mem_cons_self) p) (ih fun x m => hss x (List.mem_cons_of_mem _ m))
        refine all (fun s m => ?_) r3
        obtain ⟨p, hp, rfl⟩ := List.mem_map.mp m
        exact n p hp
      | exc c fs => obtain ⟨cv, d, hc, r1, r2⟩ := q; exact ⟨cv, d, hc, r1, r2.tr sy⟩
      | dead => exact q
  · refine ⟨by rw [List.length_map]; exact so.len, fun j s ej => ?_⟩
    rw [List.getElem?_map] at ej
    cases q : sl[j]? with
    | none => rw [q] at ej; cases ej
    | some y =>
      rw [q] at ej
      simp only [Option.map_some, Option.some.injEq] at ej
      cases y with
      | none => simp [frzS] at ej
      | some y =>
        obtain ⟨v, ev, rv⟩ := so.has j y q
        refine ⟨v, ev, ?_⟩
        cases y with
        | o k =>
          simp only [frzS] at ej
          split at ej
          · rename_i ek
            subst ek
            simp only [Option.some.injEq] at ej
            subst ej
            obtain ⟨a, c, z1, z2, z3, z4⟩ := rv
            rw [e1] at z2
            cases z2
            subst z1
            exact Im.lst eH nw (ImAll.tr sy rx)
          · rename_i ek
            simp only [Option.some.injEq] at ej
            subst ej
            exact rp (fun z => ek (by cases z; rfl)) rv
        | d x => simp only [frzS, Option.some.injEq] at ej; subst ej; exact rp (fun z => nomatch z) rv
        | r u => simp only [frzS, Option.some.injEq] at ej; subst ej; exact rp (fun z => nomatch z) rv
        | l _ _ _ => simp only [frzS, Option.some.injEq] at ej; subst ej; exact rp (fun z => nomatch z) rv
        | f ns => simp only [frzS, Option.some.injEq] at ej; subst ej; exact rp (fun z => nomatch z) rv
theorem dss_frz {rest : List Stmt} {u : DS} (n0 i : Nat) (hn : Z0.st.length = n0) (h : DSs X E Z0 rest u) : DSs X E Z0 rest (wFrz n0 i u) :=
  ⟨pssI h.run fun D σ H ⟨Z, sl, Dd, hh, l0, ok, so, w, en⟩ => by
    subst hh
    unfold wFrz at w
    split at w
    · rename_i hd es
      split at w
      · rename_i ds ec
        obtain ⟨w1, w2, w3⟩ := w
        obtain ⟨Z', e1, e2, l', k', ok', so'⟩ := frz_ok ok so l0 (by rw [hn]; exact w1) ec w2
        exact ⟨Z', _, Dd, e1, l', ok', so', by rw [e2]; exact w3, en.at k'⟩
      · exact w.elim
    · exact ⟨Z, sl, Dd, rfl, l0, ok, so, w, en⟩⟩
end
end Pz
set_option maxRecDepth 100000
namespace Pz
open PySem PySem.Spec PyProof.Rows L2 TL
variable [TabC]
def sp0 (f : Sto → DK → DXF → Prop) : DSp := fun ss cs Q Ed => match ss with | [] => f cs Q Ed | _ => False
def sp1 (f : Sl → Sto → DK → DXF → Prop) : DSp := fun ss cs Q Ed => match ss with | [a] => f a cs Q Ed | _ => False
def sp2 (f : Sl → Sl → Sto → DK → DXF → Prop) : DSp := fun ss cs Q Ed => match ss with | [a, b] => f a b cs Q Ed | _ => False
def sp3 (f : Sl → Sl → Sl → Sto → DK → DXF → Prop) : DSp := fun ss cs Q Ed => match ss with | [a, b, c] => f a b c cs Q Ed | _ => False
def sp4 (f : Sl → Sl → Sl → Sl → Sto → DK → DXF → Prop) : DSp := fun ss cs Q Ed => match ss with | [a, b, c, d] => f a b c d cs Q Ed | _ => False
def sp5 (f : Sl → Sl → Sl → Sl → Sl → Sto → DK → DXF → Prop) : DSp := fun ss cs Q Ed => match ss with | [a, b, c, d, e] => f a b c d e cs Q Ed | _ => False
theorem l0 {f} : ∀ ss cs Q Ed, sp0 f ss cs Q Ed → ss.length = 0 := fun ss cs Q Ed h => by
  unfold sp0 at h; split at h <;> first | rfl | exact h.elim
theorem l1 {f} : ∀ ss cs Q Ed, sp1 f ss cs Q Ed → ss.length = 1 := fun ss cs Q Ed h => by
  unfold sp1 at h; split at h <;> first | rfl | exact h.elim
theorem l2 {f} : ∀ ss cs Q Ed, sp2 f ss cs Q Ed → ss.length = 2 := fun ss cs Q Ed h => by
  unfold sp2 at h; split at h <;> first | rfl | exact h.elim
theorem l3 {f} : ∀ ss cs Q Ed, sp3 f ss cs Q Ed → ss.length = 3 := fun ss cs Q Ed h => by
  unfold sp3 at h; split at h <;> first | rfl | exact h.elim
theorem l4 {f} : ∀ ss cs Q Ed, sp4 f ss cs Q Ed → ss.length = 4 := fun ss cs Q Ed h => by
  unfold sp4 at h; split at h <;> first | rfl | exact h.elim
theorem l5 {f} : ∀ ss cs Q Ed, sp5 f ss cs Q Ed → ss.length = 5 := fun ss cs Q Ed h => by
  unfold sp5 at h; split at h <;> first | rfl | exact h.elim
theorem i1 {f} {P : List Sl → Prop} {cs Q Ed} (k : ∀ a, f a cs Q Ed → P [a]) : ∀ ss, sp1 f ss cs Q Ed → P ss := fun ss h => by
  unfold sp1 at h; split at h <;> first | exact k _ h | exact h.elim
theorem i2 {f} {P : List Sl → Prop} {cs Q Ed} (k : ∀ a b, f a b cs Q Ed → P [a, b]) : ∀ ss, sp2 f ss cs Q Ed → P ss := fun ss h => by
  unfold sp2 at h; split at h <;> first | exact k _ _ h | exact h.elim
theorem i3 {f} {P : List Sl → Prop} {cs Q Ed} (k : ∀ a b c, f a b c cs Q Ed → P [a, b, c]) : ∀ ss, sp3 f ss cs Q Ed → P ss := fun ss h => by
  unfold sp3 at h; split at h <;> first | exact k _ _ _ h | exact h.elim
theorem i4 {f} {P : List Sl → Prop} {cs Q Ed} (k : ∀ a b c d, f a b c d cs Q Ed → P [a, b, c, d]) : ∀ ss, sp4 f ss cs Q Ed → P ss := fun ss h => by
  unfold sp4 at h; split at h <;> first | exact k _ _ _ _ h | exact h.elim
theorem i5 {f} {P : List Sl → Prop} {cs Q Ed} (k : ∀ a b c d e, f a b c d e cs Q Ed → P [a, b, c, d, e]) : ∀ ss, sp5 f ss cs Q Ed → P ss := fun ss h => by
  unfold sp5 at h; split at h <;> first | exact k _ _ _ _ _ h | exact h.elim
structure FAt (K : Frag) (mg : Str → Option Value) (x : Str) (st : Stmt) (ps : List Str) (f : Addr) (fd : FuncData) : Prop where
  F : Fun K x x st f fd
  g : mg x = some (.ref f)
  b : Binds K fd ps []
abbrev endD (n0 : Nat) (Qd : DK) : DEnds := ⟨fun _ st => Ret n0 (.d .none) st Qd, fun s st => Ret n0 s st Qd, fun _ _ _ _ => False, fun _ _ => False, fun _ _ => False⟩
theorem ret_d {x : PyData} {st : Sto} {Q : DK} : Ret 0 (.d x) st Q = Q (.d x) [] := by
  unfold Ret
  simp
end Pz
set_option maxRecDepth 100000
namespace Pz
open PySem PySem.Spec PyProof.Rows L2 TL
theorem e1 {f} {G : List Sl → Sto → DK → DXF → Prop} {m : Nat} (k : ∀ a cs Qd Ed, f a cs Qd Ed → G [a] cs Qd Ed) : ∀ ss cs Qd Ed, sp1 f ss cs Qd Ed → ss.length = m → G ss cs Qd Ed := fun ss cs Qd Ed h _ => by
  unfold sp1 at h; split at h <;> first | exact k _ _ _ _ h | exact h.elim
theorem e2 {f} {G : List Sl → Sto → DK → DXF → Prop} {m : Nat} (k : ∀ a b cs Qd Ed, f a b cs Qd Ed → G [a, b] cs Qd Ed) : ∀ ss cs Qd Ed, sp2 f ss cs Qd Ed → ss.length = m → G ss cs Qd Ed := fun ss cs Qd Ed h _ => by
  unfold sp2 at h; split at h <;> first | exact k _ _ _ _ _ h | exact h.elim
theorem e3 {f} {G : List Sl → Sto → DK → DXF → Prop} {m : Nat} (k : ∀ a b c cs Qd Ed, f a b c cs Qd Ed → G [a, b, c] cs Qd Ed) : ∀ ss cs Qd Ed, sp3 f ss cs Qd Ed → ss.length = m → G ss cs Qd Ed := fun ss cs Qd Ed h _ => by
  unfold sp3 at h; split at h <;> first | exact k _ _ _ _ _ _ h | exact h.elim
theorem e4 {f} {G : List Sl → Sto → DK → DXF → Prop} {m : Nat} (k : ∀ a b c d cs Qd Ed, f a b c d cs Qd Ed → G [a, b, c, d] cs Qd Ed) : ∀ ss cs Qd Ed, sp4 f ss cs Qd Ed → ss.length = m → G ss cs Qd Ed := fun ss cs Qd Ed h _ => by
  unfold sp4 at h; split at h <;> first | exact k _ _ _ _ _ _ _ h | exact h.elim
theorem while_ind {t : DT} {u : DS} {D : DEnds} (Inv : Nat → Sls → Sto → Prop)
    (h1 : ∀ (R : Sls → Sto → Prop) n sl st, (∀ m, m < n → ∀ sl st, Inv m sl st → R sl st) → Inv n sl st → t D.ex sl st fun b st => if b = true then u { D with nx := R, ct := R, bk := D.nx } sl st else D.nx sl st) (n : Nat) (sl : Sls) (st : Sto)
    (h : Inv n sl st) : wWhile t u D sl st := by
  refine ⟨n + 1, ?_⟩
  have main : ∀ n m, m ≤ n → ∀ sl st, Inv m sl st → wWhileN t u D (n + 1) sl st := by
    intro n
    induction n with
    | zero => exact fun m hm sl st h => h1 _ m sl st (fun k hk => by omega) h
    | succ n ih => exact fun m hm sl st h => h1 _ m sl st (fun k hk => ih k (by omega)) h
  exact main n n (Nat.le_refl n) sl st h
class PenC extends TabC where
  P : Nat → Ct → Prop
  mono : ∀ {n m : Nat} {c : Ct}, P n c → n ≤ m → P m c
  cl : ∀ {n k : Nat} {c : Ct}, P n c → Cl k c
  live : ∀ {n : Nat} {c : Ct}, P n c → c.live
  nr : ∀ {n k : Nat} {c : Ct}, P n c → NoRef k c
variable [PenC]
def Pen (n : Nat) (c : Ct) : Prop := PenC.P n c
theorem Pen.mono {n m : Nat} {c : Ct} (h : Pen n c) (le : n ≤ m) : Pen m c := PenC.mono h le
theorem Pen.cl {n k : Nat} {c : Ct} (h : Pen n c) : Cl k c := PenC.cl h
theorem Pen.live {n : Nat} {c : Ct} (h : Pen n c) : c.live := PenC.live h
theorem Pen.nr {n k : Nat} {c : Ct} (h : Pen n c) : NoRef k c := PenC.nr h
def PenL (n : Nat) (c : Ct) : Prop := ∃ (ds : List Int) (i l : Int), c = .lst [.list (ds.map .int), .int i, .int l] ∧ ds.length ≤ 63 ∧ 0 ≤ i ∧ i ≤ n ∧ 0 ≤ l
@[reducible] def penL (T : List (Addr × Str)) (kw : Prop := True) : PenC where
  T := T
  kw := kw
  P := PenL
  mono := fun h le => by
    obtain ⟨ds, i, l, e, h1, h2, h3, h4⟩ := h
    exact ⟨ds, i, l, e, h1, h2, by omega, h4⟩
  cl := fun h => by
    obtain ⟨ds, i, l, rfl, _⟩ := h
    trivial
  live := fun h => by
    obtain ⟨ds, i, l, rfl, _⟩ := h
    trivial
  nr := fun h => by
    obtain ⟨ds, i, l, rfl, _⟩ := h
    trivial
def PenE (n : Nat) (c : Ct) : Prop := ∃ (ds : List Int) (i l : Int), c = .dK [(.inr "cells", .list (ds.map .int)), (.inr "at", .int i), (.inr "left", .int l)] ∧ ds.length ≤ 63 ∧ 0 ≤ i ∧ i ≤ n ∧ 0 ≤ l
@[reducible] def penE (T : List (Addr × Str)) (kw : Prop := True) : PenC where
  T := T
  kw := kw
  P := PenE
  mono := fun h le => by
    obtain ⟨ds, i, l, e, h1, h2, h3, h4⟩ := h
    exact ⟨ds, i, l, e, h1, h2, by omega, h4⟩
  cl := fun h => by
    obtain ⟨ds, i, l, rfl, _⟩ := h
    trivial
  live := fun h => by
    obtain ⟨ds, i, l, rfl, _⟩ := h
    trivial
  nr := fun h => by
    obtain ⟨ds, i, l, rfl, _⟩ := h
    trivial
def sp_pen : DSp := sp1 fun a cs Q Ed => ∃ ns, a = .f ns ∧ cs = [] ∧ ∀ c, Pen 0 c → Q (.o 0) [c]
def sp_draw : DSp := sp2 fun a b cs Q Ed => ∃ c n m, a = .o 0 ∧ b = .d (.int m) ∧ cs = [c] ∧ Pen n c ∧ n ≤ 100000000 ∧ 0 < m ∧ m < 2 ^ 64 ∧ ∀ c' r, Pen (n + 1) c' → 0 ≤ r → r < m → Q (.d (.int r)) [c']
theorem pen_call {ns : List Int} {st : Sto} {Q : DK} {Ed : DXF} (k : ∀ c, Pen 0 c → Q (.o st.length) (st ++ [c])) : locCall sp_pen [.f ns] st Q Ed := by
  simp only [locCall, hsOf, getAll, List.map, locS, sp_pen, sp1]
  refine ⟨fun _ m => (by cases m), ns, rfl, trivial, fun c p => ⟨fun z m => ?_, ?_⟩⟩
  · cases List.mem_singleton.mp m
    exact p.cl
  · simpa [gloS, putAll] using k c p
theorem cdw {i j : Int} (h0 : 0 < j) (h1 : j < 2 ^ 64) : CDivW i j := ⟨h0, by
  have : j.natAbs < 2 ^ 64 := by omega
  have := (Nat.log2_lt (by omega)).mpr this
  omega⟩
theorem small {i : Int} (h0 : 0 ≤ i) (h1 : i < 2 ^ 64) : SmallI i := ⟨by omega, h1⟩
theorem cpow {i j : Int} (h0 : 0 ≤ i) (h1 : i < 2 ^ 64) (h2 : 0 ≤ j) (h3 : j ≤ 1000000) : CPow i j := ⟨h2, h3, by omega⟩
end Pz
set_option maxRecDepth 100000
namespace Pz
open PySem PySem.Spec PyProof.Rows L2 TL
variable [PenC]
variable {α : Type} {a b c d : α} {l : List α} {n : Nat} {x : PyData} {C : Ct} {ds : List PyData} {st : Sto} {Q : DK}
theorem ixN_lt {k : Nat} {i : Int} (h0 : 0 ≤ i) (h1 : i < k) : ixN k i = some i.toNat := by
  unfold ixN
  rw [if_pos h0, if_pos h1]
theorem atI_at {xs : List α} {i : Int} (h0 : 0 ≤ i) (h1 : i < xs.length) : atI xs i = xs[i.toNat]? := by
  unfold atI
  rw [ixN_lt h0 h1]
  rfl
theorem at0 : atI (a :: l) 0 = some a := by rw [atI_at (by omega) (by rw [List.length_cons]; omega)]; rfl
theorem at1 : atI (a :: b :: l) 1 = some b := by rw [atI_at (by omega) (by rw [List.length_cons, List.length_cons]; omega)]; rfl
theorem at2 : atI (a :: b :: c :: l) 2 = some c := by rw [atI_at (by omega) (by rw [List.length_cons, List.length_cons, List.length_cons]; omega)]; rfl
theorem at3 : atI (a :: b :: c :: d :: l) 3 = some d := by rw [atI_at (by omega) (by rw [List.length_cons, List.length_cons, List.length_cons, List.length_cons]; omega)]; rfl
theorem len1 : [a].length = 1 := rfl
theorem len2 : [a, b].length = 2 := rfl
theorem len3 : [a, b, c].length = 3 := rfl
theorem ix10 : ixN 1 0 = some 0 := rfl
theorem ix20 : ixN 2 0 = some 0 := rfl
theorem ix21 : ixN 2 1 = some 1 := rfl
theorem ix30 : ixN 3 0 = some 0 := rfl
theorem ix31 : ixN 3 1 = some 1 := rfl
theorem ix32 : ixN 3 2 = some 2 := rfl
theorem sh_int {i : Int} : SeqAt.shaped (.int i) = true := rfl
theorem sh_bl {i : Bool} : SeqAt.shaped (.bool i) = true := rfl
theorem sh_non : SeqAt.shaped .none = true := rfl
theorem eqv_int {i j : Int} : PyData.eqv (.int i) (.int j) = decide (i = j) := rfl
theorem eqv_str {i j : Str} : PyData.eqv (.str i) (.str j) = decide (i = j) := by
  show (i == j) = _
  by_cases h : i = j <;> simp [h]
theorem ret1_d : Ret 1 (.d x) (C :: st) Q = (Cl 1 C ∧ Q (.d x) [C]) := by simp [Ret]
theorem ret1_o0 : Ret 1 (.o 0) (C :: st) Q = (Cl 1 C ∧ Q (.o 0) [C]) := by simp [Ret]
theorem ret1_o1 : Ret 1 (.o 1) (C :: .lst ds :: st) Q = (Cl 1 C ∧ Q (.o 1) [C, .lst ds]) := by simp [Ret, Ct.live, Cl]
theorem ret0_o0 : Ret 0 (.o 0) (.lst ds :: st) Q = Q (.o 0) [.lst ds] := by simp [Ret, Ct.live, Cl]
theorem cl_lst : Cl n (.lst ds) = True := rfl
theorem sh_str {z : Str} (hz : PyData.strOk z = true) : SeqAt.shaped (.str z) = true := by
  simp [SeqAt.shaped, PyData.canLay0, hz, PyData.depth]
theorem eqv_nil {ns : List Int} : PyData.eqv (.list (ns.map .int)) (.list []) = ns.isEmpty := by
  cases ns <;> rfl
theorem canLay_ints : ∀ ns : List Int, PyData.canLayAll0 (ns.map .int) = true
  | [] => rfl
  | n :: ns => by simp [PyData.canLayAll0, PyData.canLay0, canLay_ints ns]
theorem depth_ints : ∀ ns : List Int, PyData.depthAll (ns.map .int) = 0
  | [] => rfl
  | n :: ns => by simp [PyData.depthAll, PyData.depth, depth_ints ns]
theorem sh_ints {ns : List Int} : SeqAt.shaped (.list (ns.map .int)) = true := by
  simp [SeqAt.shaped, PyData.canLay0, canLay_ints, PyData.depth, depth_ints]
theorem sh_nil : SeqAt.shaped (.list []) = true := rfl
section
variable {β : Type} {args : β → List Sl} {pre : β → Prop} {post : β → PyData → Prop} {N : List Str} {m k : Nat} {τ : DS}
def spD (args : β → List Sl) (pre : β → Prop) (post : β → PyData → Prop) : DSp := fun ss cs Q Ed => ∃ b, ss = args b ∧ cs = [] ∧ pre b ∧ ∀ d, post b d → Q (.d d) []
def spP (k : Nat) (args : β → List Sl) (pre : β → Prop) (post : β → PyData → Prop) : DSp := fun ss cs Q Ed => ∃ b c n, ss = .o 0 :: args b ∧ cs = [c] ∧ Pen n c ∧ n + k ≤ 100000000 ∧ pre b ∧ ∀ c' d, Pen (n + k) c' → post b d → Q (.d d) [c']
theorem lD (h : ∀ b, (args b).length = m) : ∀ ss cs Q Ed, spD args pre post ss cs Q Ed → ss.length = m := by
  rintro ss cs Q Ed ⟨b, rfl, _⟩
  exact h b
theorem lP (h : ∀ b, (Sl.o 0 :: args b).length = m) : ∀ ss cs Q Ed, spP k args pre post ss cs Q Ed → ss.length = m := by
  rintro ss cs Q Ed ⟨b, c, n, rfl, _⟩
  exact h b
end
def Ints (P : Int → Prop) (ds : List PyData) : Prop := ∀ d ∈ ds, ∃ x, d = .int x ∧ P x
theorem Ints.map {P : Int → Prop} : ∀ {ds : List PyData}, Ints P ds → ∃ ns : List Int, ds = ns.map .int ∧ ∀ x ∈ ns, P x
  | [], _ => ⟨[], rfl, fun _ m => by cases m⟩
  | d :: ds, h => by
    obtain ⟨x, rfl, px⟩ := h d List.mem_cons_self
    obtain ⟨ns, rfl, q⟩ := Ints.map (fun z m => h z (List.mem_cons_of_mem _ m))
    exact ⟨x :: ns, rfl, fun y m => by exact (List.mem_cons.mp m).elim (fun e => e ▸ px) (q y)⟩
theorem Ints.app {P : Int → Prop} {ds es : List PyData} (h1 : Ints P ds) (h2 : Ints P es) : Ints P (ds ++ es) := fun d m => (List.mem_append.mp m).elim (h1 d) (h2 d)
theorem Ints.one {P : Int → Prop} {x : Int} (h : P x) : Ints P [.int x] := fun d m => ⟨x, List.mem_singleton.mp m, h⟩
theorem Ints.nil {P : Int → Prop} : Ints P [] := fun d m => by cases m
theorem len_rng {n : Nat} {lo : Int} : (rng lo n).length = n := by simp [rng]
theorem strOk_iff {z : Str} : PyData.strOk z = true ↔ ∀ c ∈ tl z, c < 0x110000 := by
  unfold PyData.strOk tl
  rw [Array.all_eq_true_iff_forall_mem]
  simp
theorem strOk_add {x y : Str} (h1 : PyData.strOk x = true) (h2 : PyData.strOk y = true) : PyData.strOk (x ++ y) = true := by
  rw [strOk_iff] at *
  rw [show tl (x ++ y) = tl x ++ tl y from tl_append x y]
  exact fun c m => (List.mem_append.mp m).elim (h1 c) (h2 c)
theorem len_tl {x : Str} : x.length = (tl x).length := by simp [tl, Str.length]
theorem len_add {x y : Str} : (x ++ y).length = x.length + y.length := by rw [len_tl, len_tl, len_tl, show tl (x ++ y) = tl x ++ tl y from tl_append x y, List.length_append]
theorem len_mul {x : Str} {n : Int} : (Txt.mul x n).length = n.toNat * x.length := by
  rw [len_tl, len_tl, tl_mul, List.length_flatten, List.map_replicate]
  simp
theorem tl_lit {s : String} : tl (Str.ofString s) = s.toList.map Char.toNat := by rw [Str.ofString_eq_toList]
theorem strOk_lit {s : String} : PyData.strOk (Str.ofString s) = true := by
  rw [strOk_iff, tl_lit]
  intro c m
  obtain ⟨x, _, rfl⟩ := List.mem_map.mp m
  have := x.valid
  rcases this with h | h
  · exact Nat.lt_trans h (by decide)
  · exact h.2
theorem sh_lit {s : String} : SeqAt.shaped (.str (Str.ofString s)) = true := sh_str strOk_lit
theorem len_lit {s : String} : (Str.ofString s).length = s.length := by rw [len_tl, tl_lit, List.length_map, String.length_toList]
theorem int_len {i : Int} (h : i.natAbs < 10 ^ 100) : (PyData.shown (.int i)).length ≤ 101 := by
  unfold PyData.shown
  show (Str.ofString (toString i)).length ≤ 101
  rw [len_lit]
  cases i with
  | ofNat n => exact Nat.le_trans ((Nat.length_repr_le_iff (n := n) (by decide : 0 < 100)).mpr (by simpa using h)) (by decide)
  | negSucc n =>
    have := (Nat.length_repr_le_iff (n := n + 1) (by decide : 0 < 100)).mpr (by simpa [Int.natAbs] using h)
    show ("-" ++ Nat.repr (n + 1)).length ≤ 101
    rw [String.length_append]
    have e : "-".length = 1 := by decide +kernel
    omega
theorem int_show {i : Int} (h : i.natAbs < 10 ^ 100) : (PyData.int i).showable = true := by
  have : i.natAbs.log2 < 1920 := by
    by_cases z : i.natAbs = 0
    · rw [z]; decide
    · exact (Nat.log2_lt z).mpr (Nat.lt_of_lt_of_le h (by decide +kernel))
  simpa [PyData.showable] using this
theorem ixN_m1 {k : Nat} (h : 0 < k) : ixN k (-1) = some (k - 1) := by
  unfold ixN
  rw [if_neg (by omega), if_pos (by omega)]
  congr 1
  omega
theorem eqv_self_str {z : Str} : PyData.eqv (.str z) (.str z) = true := by rw [eqv_str]; simp
theorem p10_3 : (10 : Int) ^ Int.toNat 3 = 1000 := (Int.natCast_pow 10 (Int.toNat 3)).symm.trans (congrArg Int.ofNat (by decide +kernel : 10 ^ Int.toNat 3 = 1000))
theorem p10_6 : (10 : Int) ^ Int.toNat 6 = 1000000 := (Int.natCast_pow 10 (Int.toNat 6)).symm.trans (congrArg Int.ofNat (by decide +kernel : 10 ^ Int.toNat 6 = 1000000))
theorem p10_7 : (10 : Int) ^ Int.toNat 7 = 10000000 := (Int.natCast_pow 10 (Int.toNat 7)).symm.trans (congrArg Int.ofNat (by decide +kernel : 10 ^ Int.toNat 7 = 10000000))
theorem p10_9 : (10 : Int) ^ Int.toNat 9 = 1000000000 := (Int.natCast_pow 10 (Int.toNat 9)).symm.trans (congrArg Int.ofNat (by decide +kernel : 10 ^ Int.toNat 9 = 1000000000))
theorem p10_12 : (10 : Int) ^ Int.toNat 12 = 1000000000000 := (Int.natCast_pow 10 (Int.toNat 12)).symm.trans (congrArg Int.ofNat (by decide +kernel : 10 ^ Int.toNat 12 = 1000000000000))
section
variable {t u v : DS} {A : DT} {te to ti : DE} {nx bk ct : Sls → Sto → Prop} {rt : DK} {ex : DX} {sl : Sls} {σ : Sto} {i : Nat} {f : Sl → Sl → Sto → DK → Prop} {ω : DI} {g : DG}
theorem seq_mk : wSeq t u ⟨nx, rt, ex, bk, ct⟩ sl σ = t ⟨u ⟨nx, rt, ex, bk, ct⟩, rt, ex, bk, ct⟩ sl σ := rfl
theorem nx_mk : wNext ⟨nx, rt, ex, bk, ct⟩ sl σ = nx sl σ := rfl
theorem bk_mk : wBreak ⟨nx, rt, ex, bk, ct⟩ sl σ = bk sl σ := rfl
theorem ct_mk : wCont ⟨nx, rt, ex, bk, ct⟩ sl σ = ct sl σ := rfl
theorem set_mk : wSet i te ⟨nx, rt, ex, bk, ct⟩ sl σ = te ex sl σ fun s st => nx (sl.set i (some s)) st := rfl
theorem expr_mk : wExpr te ⟨nx, rt, ex, bk, ct⟩ sl σ = te ex sl σ fun _ st => nx sl st := rfl
theorem ret_mk : wRet te ⟨nx, rt, ex, bk, ct⟩ sl σ = te ex sl σ rt := rfl
theorem retN_mk : wRetN ⟨nx, rt, ex, bk, ct⟩ sl σ = rt (.d .none) σ := rfl
theorem if_mk : wIf A u v ⟨nx, rt, ex, bk, ct⟩ sl σ = A ex sl σ fun b st => if b = true then u ⟨nx, rt, ex, bk, ct⟩ sl st else v ⟨nx, rt, ex, bk, ct⟩ sl st := rfl
theorem for_mk : wFor ω g u ⟨nx, rt, ex, bk, ct⟩ sl σ = ω ex sl σ fun ds st => wForL g u ⟨nx, rt, ex, bk, ct⟩ ds sl st := rfl
end
theorem forL_ix {g : DG} {u : DS} {nx bk ct : Sls → Sto → Prop} {rt : DK} {ex : DX} (Inv : List PyData → Sls → Sto → Prop) (h0 : ∀ sl st, Inv [] sl st → nx sl st)
    (h1 : ∀ (R B : Sls → Sto → Prop) d ds sl st, (∀ sl st, Inv ds sl st → R sl st) → Inv (d :: ds) sl st → g (.d d) sl st fun sl st => u ⟨R, rt, ex, B, R⟩ sl st) :
    ∀ ds sl st, Inv ds sl st → wForL g u ⟨nx, rt, ex, bk, ct⟩ ds sl st
  | [], sl, st, h => h0 sl st h
  | d :: ds, sl, st, h => h1 _ nx d ds sl st (fun sl st w => forL_ix (nx := nx) (bk := bk) (ct := ct) Inv h0 h1 ds sl st w) h
theorem ite_all {c p q : Prop} [Decidable c] (hp : p) (hq : q) : if c then p else q := by
  split
  · exact hp
  · exact hq
theorem atI_lt {xs : List α} {i : Int} (h0 : 0 ≤ i) (h1 : i < xs.length) : ∃ y, atI xs i = some y ∧ y ∈ xs := by
  have : i.toNat < xs.length := by omega
  exact ⟨xs[i.toNat], (atI_at h0 h1).trans (List.getElem?_eq_getElem this), List.getElem_mem this⟩
end Pz
set_option maxRecDepth 100000
namespace Pz
open PySem PySem.Spec PyProof.Rows L2 TL
variable [PenC]
section
variable {X : Cx} {E : WXs} {Z0 : Zs} {a b c e : Expr} {es : List Expr} {ta tb tc te : DE} {t : DA} {pos p : Pos} {x : Str} {K : Frag}
def wDeadE : DE := fun _ _ _ _ => False
def wDeadT : DT := fun _ _ _ _ => False
abbrev FD := List Sl → (PyData → Prop) → Prop
def allD : List Sl → Bool
  | [] => true
  | .d _ :: r => allD r
  | _ :: _ => false
structure FOk (f : FD) (n : Nat) : Prop where
  dat : ∀ ss k, f ss k → ss.length = n ∧ allD ss = true
  mono : ∀ ss k k', (∀ d, k d → k' d) → f ss k → f ss k'
theorem hsOf_allD : ∀ {ss : List Sl}, allD ss = true → hsOf ss = []
  | [], _ => rfl
  | .d _ :: r, h => hsOf_allD (ss := r) h
theorem locS_allD {hs : List Nat} : ∀ {ss : List Sl}, allD ss = true → ss.map (locS hs) = ss
  | [], _ => rfl
  | .d _ :: r, h => by
    show _ :: r.map (locS hs) = _
    rw [locS_allD (ss := r) h]
    rfl
def spF (f : FD) : DSp := fun ss cs Q Ed => cs = [] ∧ f ss fun d => Q (.d d) []
def spQ (k : Nat) (f : FD) : DSp := fun ss cs Q Ed => match ss, cs with
  | .o 0 :: r, [c] => ∃ n, Pen n c ∧ n + k ≤ 1000000 ∧ f r fun d => ∀ c', Pen (n + k) c' → Q (.d d) [c']
  | _, _ => False
variable {f : FD} {n k m : Nat} {N : List Str} {τ : DS}
theorem lF (ok : FOk f n) : ∀ ss cs Q Ed, spF f ss cs Q Ed → ss.length = n := fun ss cs Q Ed h => (ok.dat _ _ h.2).1
theorem lQ (ok : FOk f n) : ∀ ss cs Q Ed, spQ k f ss cs Q Ed → ss.length = n + 1 := fun ss cs Q Ed h => by
  unfold spQ at h
  split at h
  · obtain ⟨_, _, _, h⟩ := h
    have := (ok.dat _ _ h).1
    simp [this]
  · exact h.elim
theorem locF (ok : FOk f n) {ss : List Sl} {st : Sto} {Q : DK} {Ed : DXF} (h : f ss fun d => Q (.d d) st) : locCall (spF f) ss st Q Ed := by
  have h1 := (ok.dat _ _ h).2
  simp only [locCall, hsOf_allD h1, getAll, locS_allD h1, spF]
  refine ⟨fun c m => (by cases m), trivial, ok.mono _ _ _ (fun d q => ⟨fun c m => (by cases m), ?_⟩) h⟩
  simpa [gloS, putAll] using q
theorem locQ (ok : FOk f n) {ss : List Sl} {h j : Nat} {c : Ct} {st : Sto} {Q : DK} {Ed : DXF} (e0 : st[h]? = some c) (p : Pen j c) (hn : j + k ≤ 1000000) (hf : f ss fun d => ∀ c', Pen (j + k) c' → Q (.d d) (st.set h c')) : locCall (spQ k f) (.o h :: ss) st Q Ed := by
  have h1 := (ok.dat _ _ hf).2
  have q : getAll st [h] = some [c] := by simp [getAll, e0]
  have q2 : hsOf (.o h :: ss) = [h] := by simp [hsOf, hsOf_allD h1]
  simp only [locCall, q2, q, List.map, locS_allD h1]
  refine ⟨fun z m => by cases List.mem_singleton.mp m; exact p.cl, ?_⟩
  simp only [spQ, locS, List.idxOf_cons_self]
  refine ⟨j, p, hn, ok.mono _ _ _ (fun d w c' p' => ⟨fun z m => by cases List.mem_singleton.mp m; exact p'.cl, ?_⟩) hf⟩
  simpa [gloS, putAll] using w c' p'
def wCallF (f : FD) (t : DA) : DE := fun Ed sl st Q => t Ed sl st fun ss st => f ss fun d => Q (.d d) st
def aQ (k : Nat) (f : FD) (ss : List Sl) (st : Sto) (Q : DK) : Prop := match ss with
  | .o h :: r => ∃ c, st[h]? = some c ∧ ∃ n, Pen n c ∧ n + k ≤ 1000000 ∧ f r fun d => ∀ c', Pen (n + k) c' → Q (.d d) (st.set h c')
  | _ => False
def wCallQ (k : Nat) (f : FD) (t : DA) : DE := fun Ed sl st Q => t Ed sl st fun ss st => aQ k f ss st Q
def wCallA (g : FA) (t : DA) : DE := fun Ed sl st Q => t Ed sl st fun ss st => g ss st Q
variable {dsp : DSp} {fa : Addr} {fd : FuncData} {ps ks : List Str} {kws : List Keyword} {tk : DA} {g : FA}
theorem de_callA (ok : ∀ ss st Q Ed, g ss st Q → locCall dsp ss st Q Ed) (F : FnD X.prog X.w X.K X.mg X.base CX0 k fa fd ps dsp) (hA : X.A.guards = some []) (hr : Room k X.A) (hl : ∀ ss cs Q Ed, dsp ss cs Q Ed → ss.length = ps.length) (hg : Gl X x) (hm : X.mg x = some (.ref fa)) (hk : PySem.W.keepIn X.K (.ref fa) = true) (hb : Binds X.K fd ps [])
    (ha : DAs X E (e :: es) t) (hdb : (x == ("__debug__" : Str)) = false := by decide) (he : starEach (e :: es) X.env = (false, eval e X.env) :: starEach es X.env := by rfl) (hpl : (backTo pos (starEach es X.env)).any (·.1) = false := by rfl) :
    DEx X E (.Call (.Name x p) (e :: es) [] pos) (wCallA g t) :=
  ⟨peI (pe_callG F hA hr hg hm hk hb pass0 ha.run hdb he hpl) fun σ H Q ⟨Z, sl, Qd, Ed, h, ok', so, w, kq, kx⟩ =>
    ⟨Z, sl, _, Ed, h, ok', so, w, fun Z1 vs ss l1 ok1 r1 w1 => by
      show toSp X.K ps.length dsp (vs ++ []) Z1.H Q E0
      rw [List.append_nil]
      have w2 := ok _ _ _ (fun _ _ _ => False) w1
      exact loc_sp ok1 r1 (locCall_len w2 hl) w2 (kq.le l1) (fun _ _ _ _ _ _ _ _ _ z => z), kx⟩⟩
theorem de_callF (ok : FOk f n) (F : FnD X.prog X.w X.K X.mg X.base CX0 k fa fd ps (spF f)) (hA : X.A.guards = some []) (hr : Room k X.A) (hn : n = ps.length) (hg : Gl X x) (hm : X.mg x = some (.ref fa)) (hk : PySem.W.keepIn X.K (.ref fa) = true) (hb : Binds X.K fd ps [])
    (ha : DAs X E (e :: es) t) (hdb : (x == ("__debug__" : Str)) = false := by decide) (he : starEach (e :: es) X.env = (false, eval e X.env) :: starEach es X.env := by rfl) (hpl : (backTo pos (starEach es X.env)).any (·.1) = false := by rfl) :
    DEx X E (.Call (.Name x p) (e :: es) [] pos) (wCallF f t) :=
  de_callA (fun ss st Q Ed h => locF ok h) F hA hr (fun ss cs Q Ed h => hn ▸ lF ok ss cs Q Ed h) hg hm hk hb ha hdb he hpl
theorem aQ_loc (ok : FOk f n) : ∀ ss st Q Ed, aQ m f ss st Q → locCall (spQ m f) ss st Q Ed := fun ss st Q Ed h => by
  unfold aQ at h
  split at h
  · obtain ⟨c, e0, j, p, hn, hf⟩ := h
    exact locQ ok e0 p hn hf
  · exact h.elim
theorem de_callQ (ok : FOk f n) (F : FnD X.prog X.w X.K X.mg X.base CX0 k fa fd ps (spQ m f)) (hA : X.A.guards = some []) (hr : Room k X.A) (hn : n + 1 = ps.length) (hg : Gl X x) (hm : X.mg x = some (.ref fa)) (hk : PySem.W.keepIn X.K (.ref fa) = true) (hb : Binds X.K fd ps [])
    (ha : DAs X E (e :: es) t) (hdb : (x == ("__debug__" : Str)) = false := by decide) (he : starEach (e :: es) X.env = (false, eval e X.env) :: starEach es X.env := by rfl) (hpl : (backTo pos (starEach es X.env)).any (·.1) = false := by rfl) :
    DEx X E (.Call (.Name x p) (e :: es) [] pos) (wCallQ m f t) :=
  de_callA (aQ_loc ok) F hA hr (fun ss cs Q Ed h => hn ▸ lQ ok ss cs Q Ed h) hg hm hk hb ha hdb he hpl
def wCallWF (n m : Nat) (f : FD) (g : ∀ {α : Type}, List α → List α → List α) (t tk : DA) : DE := fun Ed sl st Q => t Ed sl st fun ss st => tk Ed sl st fun zs st => ss.length = n ∧ zs.length = m ∧ f (g ss zs) fun d => Q (.d d) st
variable {gg : ∀ {α : Type}, List α → List α → List α}
abbrev end0 (Qd : DK) : DEnds := ⟨fun _ st => Ret 0 (.d .none) st Qd, fun s st => Ret 0 s st Qd, fun _ _ _ _ => False, fun _ _ => False, fun _ _ => False⟩
abbrev end1 (Qd : DK) : DEnds := ⟨fun _ st => Ret 1 (.d .none) st Qd, fun s st => Ret 1 s st Qd, fun _ _ _ _ => False, fun _ _ => False, fun _ _ => False⟩
theorem hF (h : ∀ (ss : List Sl) (Qd : DK), (f ss fun d => Qd (.d d) []) → τ (end0 Qd) (startS N ss) []) :
    ∀ (ss : List Sl) (cs : Sto) (Qd : DK) (Ed : DXF), spF f ss cs Qd Ed → ss.length = m → cs.length = 0 ∧ τ (end0 Qd) (startS N ss) cs := by
  rintro ss cs Qd Ed ⟨rfl, w⟩ _
  exact ⟨rfl, h ss Qd w⟩
theorem hQ (h : ∀ (ss : List Sl) (c : Ct) (n : Nat) (Qd : DK), Pen n c → n + k ≤ 1000000 → (f ss fun d => ∀ c', Pen (n + k) c' → Qd (.d d) [c']) → τ (end1 Qd) (startS N (.o 0 :: ss)) [c]) :
    ∀ (ss : List Sl) (cs : Sto) (Qd : DK) (Ed : DXF), spQ k f ss cs Qd Ed → ss.length = m → cs.length = 1 ∧ τ (end1 Qd) (startS N ss) cs := by
  rintro ss cs Qd Ed w _
  unfold spQ at w
  split at w
  · obtain ⟨n, p, hn, w⟩ := w
    exact ⟨rfl, h _ _ _ Qd p hn w⟩
  · exact w.elim
def oIn (neg : Bool) (x y : Sl) (st : Sto) (Q : DK) : Prop := match vw st x, vw st y with
  | some d, some (.list ds) => SeqAt.shaped d = true ∧ SeqAt.shaped (.list ds) = true ∧ Q (.d (.bool (if neg then !ds.any fun z => PyData.eqv z d else ds.any fun z => PyData.eqv z d))) st
  | _, _ => False
theorem room65 {k : Nat} {A : Around} (r : Room k A) : A.units + 65 < cLine := by have := r.un; omega
def wRev (te : DE) : DE := fun Ed sl st Q => te Ed sl st fun s st => match vw st s with
  | some (.list ds) => Q (.d (.list ds.reverse)) st
  | _ => False
theorem ImAll.rev {W : Addr → Prop} {H : Hp} {vs : List V} {ds : List PyData} (h : ImAll K W H vs ds) : ImAll K W H vs.reverse ds.reverse := by
  induction vs generalizing ds with
  | nil => cases h; exact .nil
  | cons v vs ih =>
    cases h with
    | cons a b => rw [List.reverse_cons, List.reverse_cons]; exact (ih b).append (.cons a .nil)
theorem rp_str {Z : Zs} {vs : List V} {s : Sl} {z : Str} (ra : RpAll K Z vs [s]) (e : vw Z.st s = some (.str z)) : vs = [.str z] := by
  obtain ⟨v, rfl, r⟩ := rp1 ra
  rw [r.str e]
theorem strs_im {W : Addr → Prop} {H : Hp} : ∀ (ns : List Str), ImAll K W H (ns.map V.str) (ns.map .str)
  | [] => .nil
  | n :: ns => .cons (.str n) (strs_im ns)
def mSplit : FM := fun s ss st Q => match ss with
  | [t] => match vw st s, vw st t with
    | some (.str a), some (.str b) => b.length ≠ 0 ∧ a.length + 2 ≤ sizeLine ∧ Q (.d (.list ((Txt.split a b).map .str))) st
    | _, _ => False
  | _ => False
theorem md_split : MetD K (fun x xs H Q => ∃ a b, x = .str a ∧ xs = [.str b] ∧ (b.length == 0) = false ∧ a.length + 2 ≤ sizeLine ∧ rNewStrs (Txt.split a b) H Q) mSplit := by
  intro Z v s vs ss Qd Q ok rs ra w k
  unfold mSplit at w
  split at w
  · split at w
    · rename_i a b e1 e2
      exact ⟨a, b, rs.str e1, rp_str ra e2, by simpa using w.1, w.2.1, k.newL ok (strs_im _) w.2.2⟩
    · exact w.elim
  · exact w.elim
def asStrs : List PyData → Option (List Str)
  | [] => some []
  | .str z :: r => (asStrs r).map (z :: ·)
  | _ => none
theorem asStrs_map : ∀ ns : List Str, asStrs (ns.map PyData.str) = some ns
  | [] => rfl
  | n :: ns => by simp [asStrs, asStrs_map ns]
theorem asStrs_eq : ∀ {ds : List PyData} {ns : List Str}, asStrs ds = some ns → ds = ns.map .str
  | [], ns, h => by cases h; rfl
  | .str z :: r, ns, h => by
    simp only [asStrs, Option.map_eq_some_iff] at h
    obtain ⟨l, e, rfl⟩ := h
    rw [asStrs_eq e]; rfl
theorem im_strs {W : Addr → Prop} {H : Hp} : ∀ {vs : List V} {ns : List Str}, ImAll K W H vs (ns.map .str) → vs = ns.map V.str
  | _, [], h => by cases h; rfl
  | _, n :: ns, h => by
    cases h with
    | cons a b => cases a; rw [im_strs b]; rfl
def vwS (st : Sto) (s : Sl) : Option (List Str) := match vw st s with
  | some (.list ds) => asStrs ds
  | some (.tuple ds) => asStrs ds
  | _ => none
def mJoin : FM := fun s ss st Q => match ss with
  | [t] => match vw st s, vwS st t with
    | some (.str a), some ys => (ys.map (·.length)).sum + ys.length * a.length ≤ 16777216 ∧ Q (.d (.str (Txt.join a ys))) st
    | _, _ => False
  | _ => False
theorem md_join : MetD K (fun x xs H Q => ∃ a p, ∃ ys : List Str, x = .str a ∧ xs = [.ref p] ∧ (SqL K H p (ys.map V.str) ∨ SqT K H p (ys.map V.str)) ∧
    (ys.map (·.length)).sum + ys.length * a.length ≤ 16777216 ∧ Q (.str (Txt.join a ys)) H) mJoin := by
  intro Z v s vs ss Qd Q ok rs ra w k
  unfold mJoin at w
  split at w
  · split at w
    · rename_i a ys e1 e2
      obtain ⟨v, rfl, r⟩ := rp1 ra
      unfold vwS at e2
      split at e2
      · rename_i ds e3
        obtain ⟨p, xs, rfl, q, r'⟩ := r.list ok e3
        rw [asStrs_eq e2] at r'
        rw [im_strs r'] at q
        exact ⟨a, p, ys, rs.str e1, rfl, .inl (.of q), w.1, k.now ok (.str _) w.2⟩
      · rename_i ds e3
        obtain ⟨p, xs, rfl, q, r'⟩ := r.tuple e3
        rw [asStrs_eq e2] at r'
        rw [im_strs r'] at q
        exact ⟨a, p, ys, rs.str e1, rfl, .inr q.sq, w.1, k.now ok (.str _) w.2⟩
      · cases e2
    · exact w.elim
  · exact w.elim
end
end Pz
set_option maxRecDepth 100000
namespace Pz
open PySem PySem.Spec PyProof.Rows L2 TL
variable [PenC]
theorem wC_ap {s : Sl} {u0 : DX} {u1 : Sls} {st : Sto} {Q : DK} : wC s u0 u1 st Q = (Q s st) := rfl
theorem wVar_ap {i : Nat} {u0 : DX} {sl : Sls} {st : Sto} {Q : DK} : wVar i u0 sl st Q = (match nthS sl i with
  | some s => Q s st
  | none => False) := rfl
theorem wOp_ap {f : Sl → Sl → Sto → DK → Prop} {ta tb : DE} {Ed : DX} {sl : Sls} {st : Sto} {Q : DK} : wOp f ta tb Ed sl st Q = (ta Ed sl st fun x st => tb Ed sl st fun y st => f x y st Q) := rfl
theorem wTest_ap {t : DE} {Ed : DX} {sl : Sls} {st : Sto} {Q : Bool → Sto → Prop} : wTest t Ed sl st Q = (t Ed sl st fun s st => match s with
  | .d (.bool b) => Q b st
  | _ => False) := rfl
theorem wNil_ap  {u0 : DX} {u1 : Sls} {st : Sto} {Q : List Sl → Sto → Prop} : wNil  u0 u1 st Q = (Q [] st) := rfl
theorem wCons_ap {te : DE} {t : DA} {Ed : DX} {sl : Sls} {st : Sto} {Q : List Sl → Sto → Prop} : wCons te t Ed sl st Q = (te Ed sl st fun x st => t Ed sl st fun xs st => Q (x :: xs) st) := rfl
theorem wCall_ap {dsp : DSp} {t : DA} {Ed : DX} {sl : Sls} {st : Sto} {Q : DK} : wCall dsp t Ed sl st Q = (t Ed sl st fun ss st => locCall dsp ss st Q fun _ _ _ => False) := rfl
theorem wCallW_ap {n m : Nat} {dsp : DSp} {g : ∀ {α : Type}, List α → List α → List α} {t tk : DA} {Ed : DX} {sl : Sls} {st : Sto} {Q : DK} : wCallW n m dsp g t tk Ed sl st Q = (t Ed sl st fun ss st => tk Ed sl st fun zs st => ss.length = n ∧ zs.length = m ∧ locCall dsp (g ss zs) st Q fun _ _ _ => False) := rfl
theorem wApp_ap {f : FA} {t : DA} {Ed : DX} {sl : Sls} {st : Sto} {Q : DK} : wApp f t Ed sl st Q = (t Ed sl st fun ss st => f ss st Q) := rfl
theorem wLst_ap {t : DA} {Ed : DX} {sl : Sls} {st : Sto} {Q : DK} : wLst t Ed sl st Q = (t Ed sl st fun ss st => match dsOf ss with
  | some ds => ds.length ≤ sizeLine ∧ Q (.d (.list ds)) st
  | none => False) := rfl
theorem wTup_ap {t : DA} {Ed : DX} {sl : Sls} {st : Sto} {Q : DK} : wTup t Ed sl st Q = (t Ed sl st fun ss st => match dsOf ss with
  | some ds => ds.length ≤ sizeLine ∧ Q (.d (.tuple ds)) st
  | none => False) := rfl
theorem wLstO_ap {t : DA} {Ed : DX} {sl : Sls} {st : Sto} {Q : DK} : wLstO t Ed sl st Q = (t Ed sl st fun ss st => match dsOf ss with
  | some ds => ds.length ≤ sizeLine ∧ Q (.o st.length) (st ++ [.lst ds])
  | none => False) := rfl
theorem wNoPart_ap  {u0 : DX} {u1 : Sls} {st : Sto} {Q : Option Int → Sto → Prop} : wNoPart  u0 u1 st Q = (Q none st) := rfl
theorem wPart_ap {te : DE} {Ed : DX} {sl : Sls} {st : Sto} {Q : Option Int → Sto → Prop} : wPart te Ed sl st Q = (te Ed sl st fun s st => match vw st s with
  | some (.int i) => Q (some i) st
  | _ => False) := rfl
theorem wSl_ap {te : DE} {tl th : DO} {Ed : DX} {sl : Sls} {st : Sto} {Q : DK} : wSl te tl th Ed sl st Q = (te Ed sl st fun s st => tl Ed sl st fun lo st => th Ed sl st fun hi st => oSl s lo hi st Q) := rfl
theorem wAnd_ap {t u : DT} {Ed : DX} {sl : Sls} {st : Sto} {Q : Bool → Sto → Prop} : wAnd t u Ed sl st Q = (t Ed sl st fun b st => if b = true then u Ed sl st Q else Q false st) := rfl
theorem wOr_ap {t u : DT} {Ed : DX} {sl : Sls} {st : Sto} {Q : Bool → Sto → Prop} : wOr t u Ed sl st Q = (t Ed sl st fun b st => if b = true then Q true st else u Ed sl st Q) := rfl
theorem wNot_ap {t : DT} {Ed : DX} {sl : Sls} {st : Sto} {Q : Bool → Sto → Prop} : wNot t Ed sl st Q = (t Ed sl st fun b st => Q (!b) st) := rfl
theorem wAndV_ap {ta tb : DE} {Ed : DX} {sl : Sls} {st : Sto} {Q : DK} : wAndV ta tb Ed sl st Q = (ta Ed sl st fun s st => match s with
  | .d (.bool b) => if b = true then tb Ed sl st Q else Q (.d (.bool false)) st
  | _ => False) := rfl
theorem wOrV_ap {ta tb : DE} {Ed : DX} {sl : Sls} {st : Sto} {Q : DK} : wOrV ta tb Ed sl st Q = (ta Ed sl st fun s st => match s with
  | .d (.bool b) => if b = true then Q (.d (.bool true)) st else tb Ed sl st Q
  | _ => False) := rfl
theorem wNotV_ap {ta : DE} {Ed : DX} {sl : Sls} {st : Sto} {Q : DK} : wNotV ta Ed sl st Q = (ta Ed sl st fun s st => match s with
  | .d (.bool b) => Q (.d (.bool (!b))) st
  | _ => False) := rfl
theorem wIfE_ap {t : DT} {ta tb : DE} {Ed : DX} {sl : Sls} {st : Sto} {Q : DK} : wIfE t ta tb Ed sl st Q = (t Ed sl st fun b st => if b = true then ta Ed sl st Q else tb Ed sl st Q) := rfl
theorem wTru_ap {te : DE} {Ed : DX} {sl : Sls} {st : Sto} {Q : Bool → Sto → Prop} : wTru te Ed sl st Q = (te Ed sl st fun s st => match truD st s with
  | some b => Q b st
  | none => False) := rfl
theorem wChain_ap {f g : Sl → Sl → Sto → DK → Prop} {ta tb tc : DE} {Ed : DX} {sl : Sls} {st : Sto} {Q : DK} : wChain f g ta tb tc Ed sl st Q = (ta Ed sl st fun x st => tb Ed sl st fun y st => f x y st fun z st => match z with
  | .d (.bool b) => if b = true then tc Ed sl st fun w st => g y w st Q else Q (.d (.bool false)) st
  | _ => False) := rfl
theorem wNeg_ap {ta : DE} {Ed : DX} {sl : Sls} {st : Sto} {Q : DK} : wNeg ta Ed sl st Q = (ta Ed sl st fun s st => match vw st s with
  | some (.int i) => Q (.d (.int (-i))) st
  | _ => False) := rfl
theorem wAug_ap {i : Nat} {f : Sl → Sl → Sto → DK → Prop} {te : DE} {nx bk ct : Sls → Sto → Prop} {rt : DK} {ex : DX} {sl : Sls} {st : Sto} : wAug i f te ⟨nx, rt, ex, bk, ct⟩ sl st = (match nthS sl i with
  | some s => te ex sl st fun t st => f s t st fun z st => nx (sl.set i (some z)) st
  | none => False) := rfl
theorem gNm_ap {i : Nat} {s : Sl} {sl : Sls} {st : Sto} {Q : Sls → Sto → Prop} : gNm i s sl st Q = (Q (sl.set i (some s)) st) := rfl
theorem gNl_ap  {ds : List PyData} {sl : Sls} {st : Sto} {Q : Sls → Sto → Prop} : gNl  ds sl st Q = (match ds with
  | [] => Q sl st
  | _ => False) := rfl
theorem gCn_ap {g : DG} {gs : DGL} {ds : List PyData} {sl : Sls} {st : Sto} {Q : Sls → Sto → Prop} : gCn g gs ds sl st Q = (match ds with
  | d :: ds => g (.d d) sl st fun sl st => gs ds sl st Q
  | [] => False) := rfl
theorem gTp_ap {n : Nat} {gs : DGL} {s : Sl} {sl : Sls} {st : Sto} {Q : Sls → Sto → Prop} : gTp n gs s sl st Q = (match vw st s with
  | some (.tuple ds) => ds.length = n ∧ gs ds sl st Q
  | _ => False) := rfl
theorem wAsg_ap {te : DE} {g : DG} {nx bk ct : Sls → Sto → Prop} {rt : DK} {ex : DX} {sl : Sls} {st : Sto} : wAsg te g ⟨nx, rt, ex, bk, ct⟩ sl st = (te ex sl st fun s st => g s sl st nx) := rfl
theorem wItE_ap {te : DE} {Ed : DX} {sl : Sls} {st : Sto} {Q : List PyData → Sto → Prop} : wItE te Ed sl st Q = (te Ed sl st fun s st => match s with
  | .d (.list ds) => Q ds st
  | .d (.tuple ds) => Q ds st
  | .d (.str z) => Q (signs z) st
  | _ => False) := rfl
theorem wRng1_ap {t : DA} {Ed : DX} {sl : Sls} {st : Sto} {Q : List PyData → Sto → Prop} : wRng1 t Ed sl st Q = (t Ed sl st fun ss st => match ss with
  | [s] => match vw st s with
    | some (.int j) => -(2 ^ 62) ≤ j ∧ j < 2 ^ 62 ∧ Q (rng 0 j.toNat) st
    | _ => False
  | _ => False) := rfl
theorem wRng2_ap {t : DA} {Ed : DX} {sl : Sls} {st : Sto} {Q : List PyData → Sto → Prop} : wRng2 t Ed sl st Q = (t Ed sl st fun ss st => match ss with
  | [s, s'] => match vw st s, vw st s' with
    | some (.int i), some (.int j) => (-(2 ^ 62) ≤ i ∧ i < 2 ^ 62 ∧ -(2 ^ 62) ≤ j ∧ j < 2 ^ 62) ∧ Q (rng i (j - i).toNat) st
    | _, _ => False
  | _ => False) := rfl
theorem wYes_ap  {u0 : DX} {u1 : Sls} {st : Sto} {Q : Bool → Sto → Prop} : wYes  u0 u1 st Q = (Q true st) := rfl
theorem wLc_ap {ω : DI} {g : DG} {tt : DT} {te : DE} {vs : List Nat} {Ed : DX} {sl : Sls} {st : Sto} {Q : DK} : wLc ω g tt te vs Ed sl st Q = (ω Ed sl st fun ds st => wLcL g tt te (wipeS sl vs) ds [] st fun acc st => Q (.d (.list acc)) st) := rfl
theorem wLcO_ap {ω : DI} {g : DG} {tt : DT} {te : DE} {vs : List Nat} {Ed : DX} {sl : Sls} {st : Sto} {Q : DK} : wLcO ω g tt te vs Ed sl st Q = (ω Ed sl st fun ds st => wLcL g tt te (wipeS sl vs) ds [] st fun acc st => Q (.o st.length) (st ++ [.lst acc])) := rfl
theorem wBM_ap {T : String} {f : FM} {to : DE} {t : DA} {Ed : DX} {sl : Sls} {st : Sto} {Q : DK} : wBM T f to t Ed sl st Q = (to Ed sl st fun s st => tyD T st s ∧ t Ed sl st fun ss st => f s ss st Q) := rfl
theorem wSetIx_ap {te to ti : DE} {nx bk ct : Sls → Sto → Prop} {rt : DK} {ex : DX} {sl : Sls} {st : Sto} : wSetIx te to ti ⟨nx, rt, ex, bk, ct⟩ sl st = (te ex sl st fun v st => to ex sl st fun o st => ti ex sl st fun i st => match o, v, i with
  | .o h, .d y, .d (.int j) => match st[h]? with
    | some (.lst ds) => match ixN ds.length j with
      | some n => nx sl (st.set h (.lst (ds.set n y)))
      | none => False
    | _ => False
  | _, _, _ => False) := rfl
theorem wFrz_ap {n0 i : Nat} {u : DS} {nx bk ct : Sls → Sto → Prop} {rt : DK} {ex : DX} {sl : Sls} {st : Sto} : wFrz n0 i u ⟨nx, rt, ex, bk, ct⟩ sl st = (match nthS sl i with
  | some (.o h) => match st[h]? with
    | some (.lst ds) => n0 ≤ h ∧ (∀ c ∈ st, NoRef h c) ∧ u ⟨nx, rt, ex, bk, ct⟩ (sl.map (frzS h ds)) (st.set h .dead)
    | _ => False
  | _ => u ⟨nx, rt, ex, bk, ct⟩ sl st) := rfl
theorem wCallF_ap {f : FD} {t : DA} {Ed : DX} {sl : Sls} {st : Sto} {Q : DK} : wCallF f t Ed sl st Q = (t Ed sl st fun ss st => f ss fun d => Q (.d d) st) := rfl
theorem wCallQ_ap {k : Nat} {f : FD} {t : DA} {Ed : DX} {sl : Sls} {st : Sto} {Q : DK} : wCallQ k f t Ed sl st Q = (t Ed sl st fun ss st => aQ k f ss st Q) := rfl
theorem wCallWF_ap {n m : Nat} {f : FD} {g : ∀ {α : Type}, List α → List α → List α} {t tk : DA} {Ed : DX} {sl : Sls} {st : Sto} {Q : DK} : wCallWF n m f g t tk Ed sl st Q = (t Ed sl st fun ss st => tk Ed sl st fun zs st => ss.length = n ∧ zs.length = m ∧ f (g ss zs) fun d => Q (.d d) st) := rfl
theorem wRev_ap {te : DE} {Ed : DX} {sl : Sls} {st : Sto} {Q : DK} : wRev te Ed sl st Q = (te Ed sl st fun s st => match vw st s with
  | some (.list ds) => Q (.d (.list ds.reverse)) st
  | _ => False) := rfl
end Pz
set_option maxRecDepth 100000
namespace Pz
open PySem PySem.Spec PyProof.Rows L2 TL
variable [PenC]
mutual
def okR : PyData → Bool
  | .none => true
  | .bool _ => true
  | .int i => decide (i.natAbs < 10 ^ 100)
  | .str z => PyData.strOk z
  | .list xs => okRAll xs
  | .tuple xs => okRAll xs
  | .dict _ => false
def okRAll : List PyData → Bool
  | [] => true
  | x :: xs => okR x && okRAll xs
end
theorem chr_ok (q c : Nat) (hq : q < 0x110000) (hc : c < 0x110000) : ∀ x ∈ PySem.Builtin.Str.reprChar q c, x < 0x110000 := by
  have hx : ∀ w : Nat, ∀ x ∈ (List.replicate (w - ((Nat.toDigits 16 c).map Char.toNat).length) 48 ++ (Nat.toDigits 16 c).map Char.toNat), x < 0x110000 := by
    intro w x m
    rcases List.mem_append.mp m with m | m
    · rw [(List.mem_replicate.mp m).2]; decide
    · obtain ⟨y, _, rfl⟩ := List.mem_map.mp m
      have := y.valid
      rcases this with h | h
      · exact Nat.lt_trans h (by decide)
      · exact h.2
  intro x m
  unfold PySem.Builtin.Str.reprChar at m
  dsimp only at m
  repeat' split at m
  all_goals simp only [List.mem_append, List.mem_cons, List.not_mem_nil, or_false] at m
  all_goals first | omega | (rcases m with (m | m) | m <;> first | omega | exact hx _ x (by first | exact List.mem_append.mpr m | simpa using m))
theorem fold_ok (q : Nat) (hq : q < 0x110000) : ∀ (l : List Nat) (acc : Array Nat), (∀ c ∈ l, c < 0x110000) → (∀ c ∈ acc.toList, c < 0x110000) → ∀ c ∈ (l.foldl (fun out c => out ++ (PySem.Builtin.Str.reprChar q c).toArray) acc).toList, c < 0x110000
  | [], acc, _, h2 => h2
  | d :: r, acc, h1, h2 => by
    rw [List.foldl_cons]
    refine fold_ok q hq r _ (fun c m => h1 c (List.mem_cons_of_mem _ m)) fun c m => ?_
    rw [Array.toList_append] at m
    rcases List.mem_append.mp m with m | m
    · exact h2 c m
    · exact chr_ok q d hq (h1 d List.mem_cons_self) c (by simpa using m)
theorem strOk_repr {z : Str} (h : PyData.strOk z = true) : PyData.strOk (reprText z) = true := by
  rw [strOk_iff] at *
  have hq : reprQuote z < 0x110000 := by unfold reprQuote; split <;> decide
  intro c m
  unfold reprText at m
  rw [show tl (⟨(z.cps.foldl (fun out c => out ++ (PySem.Builtin.Str.reprChar (reprQuote z) c).toArray) #[reprQuote z]).push (reprQuote z)⟩ : Str) = ((z.cps.foldl (fun out c => out ++ (PySem.Builtin.Str.reprChar (reprQuote z) c).toArray) #[reprQuote z]).push (reprQuote z)).toList from rfl] at m
  rw [Array.toList_push, ← Array.foldl_toList] at m
  rcases List.mem_append.mp m with m | m
  · exact fold_ok _ hq z.cps.toList #[reprQuote z] h (fun c m => by simp at m; omega) c m
  · simp at m; omega
theorem strOk_from : ∀ (ts : List Str) (k : Nat) (acc : Str), PyData.strOk acc = true → (∀ t ∈ ts, PyData.strOk t = true) → PyData.strOk (textFrom k acc ts) = true
  | [], k, acc, h, _ => h
  | t :: r, k, acc, h, h2 => strOk_from r (k + 1) _ (strOk_add (strOk_add h (by split <;> exact strOk_lit)) (h2 t List.mem_cons_self)) fun x m => h2 x (List.mem_cons_of_mem _ m)
theorem strOk_listText {ts : List Str} (h : ∀ t ∈ ts, PyData.strOk t = true) : PyData.strOk (listText ts) = true := strOk_add (strOk_from ts 0 _ strOk_lit h) strOk_lit
theorem strOk_joinL {a : List Nat} (ha : ∀ c ∈ a, c < 0x110000) : ∀ {ys : List (List Nat)}, (∀ y ∈ ys, ∀ c ∈ y, c < 0x110000) → ∀ c ∈ TL.joinL a ys, c < 0x110000
  | [], _, c, m => by simp [TL.joinL] at m
  | [y], h, c, m => h y (by simp) c (by simpa [TL.joinL] using m)
  | y :: z :: r, h, c, m => by
    simp only [TL.joinL, List.mem_append] at m
    have ih := strOk_joinL ha (ys := z :: r) (fun y m => h y (List.mem_cons_of_mem _ m)) c
    rcases m with m | m
    · first | exact h y (by simp) c m | (rcases m with m | m <;> first | exact h y (by simp) c m | exact ha c m)
    · first | exact ih m | (rcases m with m | m <;> first | exact ha c m | exact ih m)
theorem strOk_strJoin {a : Str} {ts : List Str} (ha : PyData.strOk a = true) (h : ∀ t ∈ ts, PyData.strOk t = true) : PyData.strOk (Str.join a ts) = true := by
  rw [strOk_iff] at *
  rw [TL.tl_join]
  refine strOk_joinL ha fun y m => ?_
  obtain ⟨t, mt, rfl⟩ := List.mem_map.mp m
  exact strOk_iff.mp (h t mt)
theorem strOk_tupleText {ts : List Str} (h : ∀ t ∈ ts, PyData.strOk t = true) : PyData.strOk (tupleText ts) = true := by
  unfold tupleText
  exact strOk_add (strOk_add strOk_lit (strOk_strJoin strOk_lit h)) (by split <;> exact strOk_lit)
mutual
theorem strOk_shown : ∀ {d : PyData}, okR d = true → PyData.strOk d.shown = true
  | .none, _ => by rw [PyData.shown]; exact strOk_lit
  | .bool b, _ => by rw [PyData.shown]; split <;> exact strOk_lit
  | .int i, _ => by rw [PyData.shown]; exact strOk_lit
  | .str z, h => by rw [PyData.shown]; exact strOk_repr (by simpa [okR] using h)
  | .list xs, h => by rw [PyData.shown]; exact strOk_listText (strOk_shownAll (by simpa [okR] using h))
  | .tuple xs, h => by rw [PyData.shown]; exact strOk_tupleText (strOk_shownAll (by simpa [okR] using h))
  | .dict _, h => by simp [okR] at h
theorem strOk_shownAll : ∀ {ds : List PyData}, okRAll ds = true → ∀ t ∈ PyData.shownAll ds, PyData.strOk t = true
  | [], _ => by simp [PyData.shownAll]
  | x :: xs, h => by
    have h' : okR x = true ∧ okRAll xs = true := by simpa [okRAll] using h
    intro t m
    rw [PyData.shownAll] at m
    rcases List.mem_cons.mp m with rfl | m
    · exact strOk_shown h'.1
    · exact strOk_shownAll h'.2 t m
end
mutual
theorem okR_show : ∀ {d : PyData}, okR d = true → d.showable = true
  | .none, _ => by rw [PyData.showable]
  | .bool b, _ => by rw [PyData.showable]
  | .int i, h => int_show (by simpa [okR] using h)
  | .str z, h => by rw [PyData.showable]
  | .list xs, h => by rw [PyData.showable]; exact okR_showAll (by simpa [okR] using h)
  | .tuple xs, h => by rw [PyData.showable]; exact okR_showAll (by simpa [okR] using h)
  | .dict _, h => by simp [okR] at h
theorem okR_showAll : ∀ {ds : List PyData}, okRAll ds = true → PyData.showableAll ds = true
  | [], _ => by rw [PyData.showableAll]
  | x :: xs, h => by
    have h' : okR x = true ∧ okRAll xs = true := by simpa [okRAll] using h
    rw [PyData.showableAll, okR_show h'.1, okR_showAll h'.2]; rfl
end
mutual
theorem okR_dict : ∀ {d : PyData}, okR d = true → d.hasDict = false
  | .none, _ => by rw [PyData.hasDict]
  | .bool b, _ => by rw [PyData.hasDict]
  | .int i, h => by rw [PyData.hasDict]
  | .str z, h => by rw [PyData.hasDict]
  | .list xs, h => by rw [PyData.hasDict]; exact okR_dictAll (by simpa [okR] using h)
  | .tuple xs, h => by rw [PyData.hasDict]; exact okR_dictAll (by simpa [okR] using h)
  | .dict _, h => by simp [okR] at h
theorem okR_dictAll : ∀ {ds : List PyData}, okRAll ds = true → PyData.hasDictAll ds = false
  | [], _ => by rw [PyData.hasDictAll]
  | x :: xs, h => by
    have h' : okR x = true ∧ okRAll xs = true := by simpa [okRAll] using h
    rw [PyData.hasDictAll, okR_dict h'.1, okR_dictAll h'.2]; rfl
end
mutual
theorem okR_short : ∀ {d : PyData}, okR d = true → d.leavesShort 101 = true
  | .none, _ => by rw [PyData.leavesShort]
  | .bool b, _ => by rw [PyData.leavesShort]
  | .int i, h => by rw [PyData.leavesShort]; exact decide_eq_true (int_len (by simpa [okR] using h))
  | .str z, h => by
    rw [PyData.leavesShort, List.all_eq_true]
    intro c m
    have := strOk_iff.mp (by simpa [okR] using h) c m
    exact decide_eq_true (Nat.lt_trans this (by decide))
  | .list xs, h => by rw [PyData.leavesShort]; exact okR_shortAll (by simpa [okR] using h)
  | .tuple xs, h => by rw [PyData.leavesShort]; exact okR_shortAll (by simpa [okR] using h)
  | .dict _, h => by simp [okR] at h
theorem okR_shortAll : ∀ {ds : List PyData}, okRAll ds = true → PyData.leavesShortAll 101 ds = true
  | [], _ => by rw [PyData.leavesShortAll]
  | x :: xs, h => by
    have h' : okR x = true ∧ okRAll xs = true := by simpa [okRAll] using h
    rw [PyData.leavesShortAll, okR_short h'.1, okR_shortAll h'.2]; rfl
end
mutual
def wtR : PyData → Nat
  | .none => 4
  | .bool _ => 5
  | .int _ => 101
  | .str z => 10 * z.length + 2
  | .list xs => wtRAll xs + 3
  | .tuple xs => wtRAll xs + 3
  | .dict _ => 0
def wtRAll : List PyData → Nat
  | [] => 0
  | x :: xs => wtR x + 2 + wtRAll xs
end
mutual
theorem shown_wt : ∀ {d : PyData}, okR d = true → d.shown.length ≤ wtR d
  | .none, _ => by rw [PyData.shown, wtR]; decide
  | .bool b, _ => by rw [PyData.shown, wtR]; cases b <;> decide
  | .int i, h => by rw [wtR]; exact int_len (by simpa [okR] using h)
  | .str z, h => by
    rw [PyData.shown, wtR]
    exact PySem.StrLaws.reprText_len z fun c m => Nat.lt_trans (strOk_iff.mp (by simpa [okR] using h) c m) (by decide)
  | .list xs, h => by
    rw [PyData.shown, wtR]
    have h1 := shown_wtAll (ds := xs) (by simpa [okR] using h)
    have h2 := listText_len_le (PyData.shownAll xs)
    have h3 := PyData.shownAll_length xs
    omega
  | .tuple xs, h => by
    rw [PyData.shown, wtR]
    have h1 := shown_wtAll (ds := xs) (by simpa [okR] using h)
    have h2 := tupleText_len_le (PyData.shownAll xs)
    have h3 := PyData.shownAll_length xs
    omega
  | .dict _, h => by simp [okR] at h
theorem shown_wtAll : ∀ {ds : List PyData}, okRAll ds = true → ((PyData.shownAll ds).map (·.length)).sum + 2 * ds.length ≤ wtRAll ds
  | [], _ => by simp [PyData.shownAll, wtRAll]
  | x :: xs, h => by
    have h' : okR x = true ∧ okRAll xs = true := by simpa [okRAll] using h
    have h1 := shown_wt h'.1
    have h2 := shown_wtAll h'.2
    simp only [PyData.shownAll, wtRAll, List.map_cons, List.sum_cons, List.length_cons]
    omega
end
structure RepOk (d : PyData) : Prop where
  ok : okR d = true ∨ d = .dict []
  wt : wtR d ≤ 16000000
  dp : d.depth ≤ 60
theorem shown_dn : PyData.shown (.dict []) = "{}" := by decide +kernel
theorem RepOk.len {d : PyData} (h : RepOk d) : d.shown.length ≤ sizeLine := by
  rcases h.ok with ho | rfl
  · have := shown_wt ho
    have := h.wt
    simp only [sizeLine]
    omega
  · rw [shown_dn, len_lit]; decide +kernel
theorem RepOk.sh {d : PyData} (h : RepOk d) : SeqAt.shaped (.str d.shown) = true := by
  rcases h.ok with ho | rfl
  · exact sh_str (strOk_shown ho)
  · rw [shown_dn]; exact sh_lit
def fRep : FA := fun ss st Q => match ss with
  | [s] => match vw st s with
    | some d => RepOk d ∧ Q (.d (.str d.shown)) st
    | none => False
  | _ => False
theorem call_reprE {X : Cx} (hA : X.A.guards = some []) (hu : X.A.units + 64 < cLine) : CallR X (.builtin "repr") (fun xs H Q => ∃ a, xs = [.ref a] ∧ H a = some (.dK []) ∧ Q (.str (PyData.shown (.dict []))) H) := by
  intro pins s σ H xs us Q I r h
  obtain ⟨a, rfl, hd, q⟩ := h
  obtain ⟨u, rfl, ru⟩ := vals1 r
  obtain rfl := ru
  have fin : ∀ (h' : Heap) (t : Tok) (k : Nat), (∀ b o, s.heap.get? b = some o → h'.get? b = some o) → EP X pins σ Q (.str (PyData.shown (.dict [])) t) { s with heap := h', toks := k } := fun h' t k hk => ⟨.str _, H, I.kept hk, ⟨_, rfl⟩, q⟩
  have hh := I.hok a _ hd
  unfold L2.ObjOk at hh
  obtain ⟨_, h1, vs, kv, o, es, ep, g1, g2, g3, g4, g5, g6⟩ := hh
  obtain rfl : vs = [] := by cases kv; rfl
  have ees : es.toList = [] := by
    generalize es.toList = l at g5
    cases g5; rfl
  have rd : Reads s.heap (.ref a) (.dict []) ([a] ++ []) := Reads.dict (as := []) (bs := []) g1 g2.1 g3 (by rw [ees]; exact .nil) (by rw [ees]; exact .nil)
  refine repr_of_reads' rd (by decide +kernel) (fun _ m => ?_) hA ?_ (fun _ _ e => e) (fun h' u tk hk => fin h' u tk hk) (by rw [shown_dn, len_lit]; decide +kernel)
  · have : sysModules = a := by simpa using m
    rw [this] at h1
    simp at h1
  · have : (PyData.dict []).depth ≤ 5 := by decide +kernel
    omega
def rShow (K : Frag) : List V → Hp → VK → Prop := fun xs H Q => (∃ x d, xs = [x] ∧ Dp K H x d ∧ d.showable = true ∧ d.hasDict = false ∧ d.depth ≤ 60 ∧ d.shown.length ≤ sizeLine ∧ Q (.str d.shown) H) ∨ ∃ a, xs = [.ref a] ∧ H a = some (.dK []) ∧ Q (.str (PyData.shown (.dict []))) H
theorem call_reprR {X : Cx} (hA : X.A.guards = some []) (hu : X.A.units + 64 < cLine) : CallR X (.builtin "repr") (rShow X.K) := (call_reprD hA hu).or (call_reprE hA hu)
theorem cd_rep {K : Frag} : CallD K (rShow K) fRep := by
  intro Z vs ss Qd Q ok ra w k
  unfold fRep at w
  split at w
  · obtain ⟨v, rfl, r⟩ := rp1 ra
    split at w
    · rename_i d e
      rcases w.1.ok with ho | rfl
      · exact .inl ⟨v, d, rfl, r.dp ok e (okR_dict ho), okR_show ho, okR_dict ho, w.1.dp, w.1.len, k.now ok (.str _) w.2⟩
      · have i := r.data e fun ds h => by cases h
        generalize hd : PyData.dict [] = d at i
        cases i with
        | dct h1 h2 h3 =>
          rename_i a kvs ds
          have e0 : kvs = [] := by
            cases kvs with
            | nil => rfl
            | cons _ _ =>
              cases h3
              simp at hd
          subst e0
          exact .inr ⟨_, rfl, h1, k.now ok (.str _) w.2⟩
        | _ => cases hd
    · exact w.elim
  · exact w.elim
theorem small100 {i : Int} (h0 : -(2 ^ 64) ≤ i) (h1 : i ≤ 2 ^ 64) : i.natAbs < 10 ^ 100 := by
  have : i.natAbs < 10 ^ 20 := by omega
  exact Nat.lt_trans this (by decide +kernel)
structure RepP (w k : Nat) (d : PyData) : Prop where
  ok : okR d = true
  wt : wtR d ≤ w
  dp : d.depth ≤ k
structure RepL (w k : Nat) (ds : List PyData) : Prop where
  ok : okRAll ds = true
  wt : wtRAll ds ≤ w
  dp : PyData.depthAll ds ≤ k
theorem RepP.r {d : PyData} {w k : Nat} (h : RepP w k d) (hw : w ≤ 16000000) (hk : k ≤ 60) : RepOk d := ⟨.inl h.ok, Nat.le_trans h.wt hw, Nat.le_trans h.dp hk⟩
theorem RepP.mono {d : PyData} {w k w2 k2 : Nat} (h : RepP w k d) (hw : w ≤ w2) (hk : k ≤ k2) : RepP w2 k2 d := ⟨h.ok, Nat.le_trans h.wt hw, Nat.le_trans h.dp hk⟩
theorem RepL.nil : RepL 0 0 [] := ⟨rfl, Nat.le_refl _, by simp [PyData.depthAll]⟩
theorem RepL.cons {d : PyData} {ds : List PyData} {w k w2 k2 : Nat} (h : RepP w k d) (h2 : RepL w2 k2 ds) : RepL (w + 2 + w2) (max k k2) (d :: ds) :=
  ⟨by rw [okRAll, h.ok, h2.ok]; rfl, by have := h.wt; have := h2.wt; rw [wtRAll]; omega, by have := h.dp; have := h2.dp; rw [PyData.depthAll]; omega⟩
theorem RepL.lst {ds : List PyData} {w k : Nat} (h : RepL w k ds) : RepP (w + 3) (k + 1) (.list ds) := ⟨by rw [okR]; exact h.ok, by rw [wtR]; have := h.wt; omega, by rw [PyData.depth]; have := h.dp; omega⟩
theorem RepL.tup {ds : List PyData} {w k : Nat} (h : RepL w k ds) : RepP (w + 3) (k + 1) (.tuple ds) := ⟨by rw [okR]; exact h.ok, by rw [wtR]; have := h.wt; omega, by rw [PyData.depth]; have := h.dp; omega⟩
theorem RepL.mono {ds : List PyData} {w k w2 k2 : Nat} (h : RepL w k ds) (hw : w ≤ w2) (hk : k ≤ k2) : RepL w2 k2 ds := ⟨h.ok, Nat.le_trans h.wt hw, Nat.le_trans h.dp hk⟩
theorem RepL.all {w k : Nat} : ∀ {ds : List PyData}, (∀ d ∈ ds, RepP w k d) → RepL ((w + 2) * ds.length) k ds
  | [], _ => RepL.nil.mono (Nat.zero_le _) (Nat.zero_le _)
  | d :: ds, h => by
    have := RepL.cons (h d List.mem_cons_self) (RepL.all fun x m => h x (List.mem_cons_of_mem _ m))
    refine this.mono ?_ (by omega)
    rw [List.length_cons, Nat.mul_add]; omega
theorem rp_i {i : Int} (h : i.natAbs < 10 ^ 100) : RepP 101 0 (.int i) := ⟨by simpa [okR] using h, by simp [wtR], by simp [PyData.depth]⟩
theorem rp_n : RepP 4 0 .none := ⟨rfl, by simp [wtR], by simp [PyData.depth]⟩
theorem rp_s {z : Str} (h : PyData.strOk z = true) : RepP (10 * z.length + 2) 0 (.str z) := ⟨by simpa [okR] using h, by simp [wtR], by simp [PyData.depth]⟩
end Pz
set_option maxRecDepth 100000
namespace Pz
open PySem PySem.Spec PyProof.Rows L2 TL
variable [PenC]
theorem szL : sizeLine = 16777216 := rfl
section
variable {g : DG} {tt : DT} {te : DE} {sl : Sls} {st : Sto} {Q : List PyData → Sto → Prop} {ds : List PyData}
theorem lcL_ind (Inv : List PyData → List PyData → Sto → Prop) (h0 : ∀ acc st, Inv [] acc st → Q acc st)
    (h1 : ∀ (R : List PyData → Sto → Prop) d ds acc st, (∀ acc st, Inv ds acc st → R acc st) → Inv (d :: ds) acc st → g (.d d) sl st fun sl2 st => tt (fun _ _ _ _ => False) sl2 st fun b st => if b = true then te (fun _ _ _ _ => False) sl2 st fun s st => match s with
      | .d y => acc.length < sizeLine ∧ R (acc ++ [y]) st
      | _ => False
    else R acc st) : ∀ ds acc st, Inv ds acc st → wLcL g tt te sl ds acc st Q
  | [], acc, st, h => h0 acc st h
  | d :: ds, acc, st, h => h1 (fun acc st => wLcL g tt te sl ds acc st Q) d ds acc st (fun acc st h => lcL_ind Inv h0 h1 ds acc st h) h
theorem lc_map (f : PyData → PyData) (hl : ds.length ≤ 16777216) (h : ∀ d ∈ ds, ∀ R : DK, R (.d (f d)) st → g (.d d) sl st fun sl2 st => te (fun _ _ _ _ => False) sl2 st R) (q : Q (ds.map f) st) : wLcL g wYes te sl ds [] st Q := by
  have main : ∀ (es acc : List PyData), acc.length + es.length ≤ 16777216 → (∀ d ∈ es, d ∈ ds) → Q (acc ++ es.map f) st → wLcL g wYes te sl es acc st Q := by
    intro es
    induction es with
    | nil => intro acc _ _ q; simpa [wLcL] using q
    | cons d es ih =>
      intro acc hl hm q
      have hl' : acc.length < sizeLine := by rw [List.length_cons] at hl; rw [szL]; omega
      exact h d (hm d List.mem_cons_self) (fun s st => match s with
        | .d y => acc.length < sizeLine ∧ wLcL g wYes te sl es (acc ++ [y]) st Q
        | _ => False) ⟨hl', ih _ (by rw [List.length_append, List.length_cons, List.length_nil]; rw [List.length_cons] at hl; omega) (fun x m => hm x (List.mem_cons_of_mem _ m)) (by simpa using q)⟩
  exact main ds [] (by simpa using hl) (fun _ m => m) (by simpa using q)
theorem lc_fil (f : PyData → Option PyData) (hl : ds.length ≤ 16777216) (h : ∀ d ∈ ds, ∀ (R : DK) (S : Sto → Prop), (∀ y, f d = some y → R (.d y) st) → (f d = none → S st) → g (.d d) sl st fun sl2 st => tt (fun _ _ _ _ => False) sl2 st fun b st => if b = true then te (fun _ _ _ _ => False) sl2 st R else S st) (q : Q (ds.filterMap f) st) : wLcL g tt te sl ds [] st Q := by
  have main : ∀ (es acc : List PyData), acc.length + es.length ≤ 16777216 → (∀ d ∈ es, d ∈ ds) → Q (acc ++ es.filterMap f) st → wLcL g tt te sl es acc st Q := by
    intro es
    induction es with
    | nil => intro acc _ _ q; simpa [wLcL] using q
    | cons d es ih =>
      intro acc hl hm q
      have hl' : acc.length < sizeLine := by rw [List.length_cons] at hl; rw [szL]; omega
      refine h d (hm d List.mem_cons_self) (fun s st => match s with
        | .d y => acc.length < sizeLine ∧ wLcL g tt te sl es (acc ++ [y]) st Q
        | _ => False) (fun st => wLcL g tt te sl es acc st Q) (fun y e => ⟨hl', ih _ (by rw [List.length_append, List.length_cons, List.length_nil]; rw [List.length_cons] at hl; omega) (fun x m => hm x (List.mem_cons_of_mem _ m)) (by simpa [List.filterMap_cons, e] using q)⟩) fun e => ih _ (by rw [List.length_cons] at hl; omega) (fun x m => hm x (List.mem_cons_of_mem _ m)) (by simpa [List.filterMap_cons, e] using q)
  exact main ds [] (by simpa using hl) (fun _ m => m) (by simpa using q)
end
theorem tl_sp1 : tl (Str.ofString " ") = [32] := by rw [tl_lit]; decide +kernel
theorem tl_tab1 : tl (Str.ofString "\t") = [9] := by rw [tl_lit]; decide +kernel
theorem tl_empty : tl (Str.ofString "") = [] := by rw [tl_lit]; rfl
theorem tl_add (x y : Str) : tl (x ++ y) = tl x ++ tl y := tl_append x y
theorem tl_S (l : List Nat) : tl (SX.S l) = l := rfl
theorem tl_mul1 {x : Str} {c : Nat} (h : tl x = [c]) (n : Int) : tl (Txt.mul x n) = List.replicate n.toNat c := by
  rw [tl_mul, h, List.flatten_replicate_singleton]
theorem len_sp1 : (Str.ofString " ").length = 1 := by rw [len_tl, tl_sp1]; rfl
theorem len_tab1 : (Str.ofString "\t").length = 1 := by rw [len_tl, tl_tab1]; rfl
theorem len_em : (Str.ofString "").length = 0 := by rw [len_tl, tl_empty]; rfl
theorem S_of_tl {z : Str} {l : List Nat} (h : tl z = l) : z = SX.S l := h ▸ (SX.S_tl z).symm
theorem sh_sign {c : Nat} (h : c < 0x110000) : SeqAt.shaped (.str ⟨#[c]⟩) = true := by
  simp [SeqAt.shaped, PyData.canLay0, PyData.strOk, h, PyData.depth]
def toN : PyData → Nat
  | .int i => i.toNat
  | _ => 0
def toI : PyData → Int
  | .int i => i
  | _ => 0
theorem cut_last {α : Type} {xs : List α} {y : α} : Pz.cutD (xs ++ [y]) none (some (-1)) = xs := by
  rw [show Pz.cutD (xs ++ [y]) none (some (-1)) = ((xs ++ [y]).drop 0).take (HT.sIx (xs ++ [y]).length (xs ++ [y]).length (some (-1)) - 0) from rfl]
  have : HT.sIx (xs ++ [y]).length (xs ++ [y]).length (some (-1)) = xs.length := by
    simp [HT.sIx]
    try omega
  rw [this]
  simp
theorem at_last {α : Type} {xs : List α} {y : α} : atI (xs ++ [y]) (-1) = some y := by
  unfold atI
  rw [ixN_m1 (by simp)]
  simp
end Pz
set_option maxRecDepth 100000
namespace Pz
open PySem PySem.Spec PyProof.Rows L2 TL
variable [PenC]
section
variable {X : Cx} {E : WXs} {Z0 : Zs} {a b c e : Expr} {es : List Expr} {ta tb tc te : DE} {t : DA} {pos p : Pos} {x : Str} {K : Frag}
def oIxE (s t : Sl) (st : Sto) (Q : DK) : Prop := match vw st s, vw st t with
  | some (.list ds), some (.int i) => ∃ d, atI ds i = some d ∧ Q (.d d) st
  | some (.tuple ds), some (.int i) => ∃ d, atI ds i = some d ∧ Q (.d d) st
  | some (.str z), some (.int i) => z.length ≤ sizeLine ∧ ∃ c, atI (tl z) i = some c ∧ Q (.d (.str ⟨#[c]⟩)) st
  | _, _ => False
theorem oIxE_ok {s t : Sl} {st : Sto} {Q : DK} (h : oIxE s t st Q) : oIx s t st Q := by
  unfold oIxE at h
  unfold oIx
  split at h
  · obtain ⟨d, e, q⟩ := h
    rename_i e1 e2
    first | (rw [e1, e2]; dsimp only; rw [e]; exact q) | (rw [e]; exact q)
  · obtain ⟨d, e, q⟩ := h
    rename_i e1 e2
    first | (rw [e1, e2]; dsimp only; rw [e]; exact q) | (rw [e]; exact q)
  · obtain ⟨hz, d, e, q⟩ := h
    rename_i e1 e2
    first | (rw [e1, e2]; dsimp only; rw [e]; exact ⟨hz, q⟩) | (rw [e]; exact ⟨hz, q⟩)
  · exact h.elim
theorem d2_ixE : D2 K (rIx K) oIxE := fun Z v u s t Qd Q ok r1 r2 w k => d2_ix Z v u s t Qd Q ok r1 r2 (oIxE_ok w) k
theorem de_ixE (ha : DEx X E a ta) (hb : DEx X E b tb) (hs : PlainIx b := by intro _ _; rfl) : DEx X E (.Subscript a b pos) (wOp oIxE ta tb) := ⟨peI (pe_ix ix_seq ha.run hb.run hs) (wOp_ok d2_ixE)⟩
end
theorem pickI {P : Int → Prop} {ds : List PyData} {i : Int} {R : PyData → Prop} (h : Ints P ds) (h0 : 0 ≤ i) (h1 : i < ds.length) (k : ∀ x, P x → R (.int x)) : ∃ y, atI ds i = some y ∧ R y := by
  obtain ⟨y, e, m⟩ := atI_lt h0 h1
  obtain ⟨x, rfl, hx⟩ := h y m
  exact ⟨_, e, k x hx⟩
theorem pickM {P : PyData → Prop} {ds : List PyData} {i : Int} {R : PyData → Prop} (h : ∀ d ∈ ds, P d) (h0 : 0 ≤ i) (h1 : i < ds.length) (k : ∀ d, P d → R d) : ∃ y, atI ds i = some y ∧ R y := by
  obtain ⟨y, e, m⟩ := atI_lt h0 h1
  exact ⟨_, e, k y (h y m)⟩
theorem Ints.cons {P : Int → Prop} {x : Int} {ds : List PyData} (h : P x) (h2 : Ints P ds) : Ints P (.int x :: ds) := fun d m => by
  rcases List.mem_cons.mp m with rfl | m
  · exact ⟨x, rfl, h⟩
  · exact h2 d m
theorem Ints.imp {P R : Int → Prop} {ds : List PyData} (h : Ints P ds) (k : ∀ x, P x → R x) : Ints R ds := fun d m => by
  obtain ⟨x, rfl, hx⟩ := h d m
  exact ⟨x, rfl, k x hx⟩
theorem Ints.tail {P : Int → Prop} {d : PyData} {ds : List PyData} (h : Ints P (d :: ds)) : Ints P ds := fun z m => h z (List.mem_cons_of_mem _ m)
theorem Ints.head {P : Int → Prop} {d : PyData} {ds : List PyData} (h : Ints P (d :: ds)) : ∃ x, d = .int x ∧ P x := h d List.mem_cons_self
theorem Ints.asInts {P : Int → Prop} : ∀ {ds : List PyData}, Ints P ds → Pz.asInts ds = some (ds.map toI)
  | [], _ => rfl
  | d :: ds, h => by
    obtain ⟨x, rfl, hx⟩ := h.head
    simp [Pz.asInts, Ints.asInts h.tail, toI]
theorem Ints.eq {P : Int → Prop} {ds : List PyData} (h : Ints P ds) : ds = (ds.map toI).map .int := asInts_eq h.asInts
theorem Ints.toI {P : Int → Prop} {ds : List PyData} (h : Ints P ds) : ∀ x ∈ ds.map Pz.toI, P x := fun x m => by
  obtain ⟨d, md, rfl⟩ := List.mem_map.mp m
  obtain ⟨y, rfl, hy⟩ := h d md
  exact hy
theorem Ints.of {P : Int → Prop} {ns : List Int} (h : ∀ x ∈ ns, P x) : Ints P (ns.map .int) := fun d m => by
  obtain ⟨x, mx, rfl⟩ := List.mem_map.mp m
  exact ⟨x, rfl, h x mx⟩
theorem Ints.rng {lo : Int} {n : Nat} : Ints (fun x => lo ≤ x ∧ x < lo + n) (rng lo n) := fun d m => by
  unfold Pz.rng at m
  obtain ⟨i, mi, rfl⟩ := List.mem_map.mp m
  exact ⟨_, rfl, by omega, by have := List.mem_range.mp mi; omega⟩
section
variable {K : Frag}
def mPopAt : FM := fun s ss st Q => match s, ss with
  | .o h, [t] => match st[h]?, vw st t with
    | some (.lst ds), some (.int i) => -(2 ^ 63) ≤ i ∧ i < 2 ^ 63 ∧ ∃ d, atI ds i = some d ∧ ∃ k, ixN ds.length i = some k ∧ Q (.d d) (st.set h (.lst (ds.eraseIdx k)))
    | _, _ => False
  | _, _ => False
end
section
variable {X : Cx} {E : WXs} {Z0 : Zs} {a b : Expr} {ta tb : DE} {pos p p2 pos2 : Pos}
structure DRg (X : Cx) (E : WXs) (e : Expr) (τ : DX → Sls → Sto → (Int → Int → Sto → Prop) → Prop) : Prop where
  run : PRg X e fun σ H Q => ∃ (Z : Zs) (sl : Sls) (Qd : Int → Int → Sto → Prop) (Ed : DX), Z.H = H ∧ Ok X.K Z ∧ SlOk X.K Z σ sl ∧ τ Ed sl Z.st Qd ∧ (∀ (Z' : Zs) (i j : Int), Le Z Z' → Ok X.K Z' → Qd i j Z'.st → Q i j Z'.H) ∧ KXOk X.K Z Ed E
def wRg1 (ta : DE) : DX → Sls → Sto → (Int → Int → Sto → Prop) → Prop := fun Ed sl st Q => ta Ed sl st fun s st => match vw st s with
  | some (.int j) => Q 0 j st
  | _ => False
def wRg2 (ta tb : DE) : DX → Sls → Sto → (Int → Int → Sto → Prop) → Prop := fun Ed sl st Q => ta Ed sl st fun s st => tb Ed sl st fun t st => match vw st s, vw st t with
  | some (.int i), some (.int j) => Q i j st
  | _, _ => False
def wListRg (tr : DX → Sls → Sto → (Int → Int → Sto → Prop) → Prop) : DE := fun Ed sl st Q => tr Ed sl st fun i j st => RgOk i j ∧ Q (.d (.list (rng i (j - i).toNat))) st
end
theorem wRg1_ap {ta : DE} {Ed : DX} {sl : Sls} {st : Sto} {Q : Int → Int → Sto → Prop} : wRg1 ta Ed sl st Q = (ta Ed sl st fun s st => match vw st s with
  | some (.int j) => Q 0 j st
  | _ => False) := rfl
theorem wRg2_ap {ta tb : DE} {Ed : DX} {sl : Sls} {st : Sto} {Q : Int → Int → Sto → Prop} : wRg2 ta tb Ed sl st Q = (ta Ed sl st fun s st => tb Ed sl st fun t st => match vw st s, vw st t with
  | some (.int i), some (.int j) => Q i j st
  | _, _ => False) := rfl
theorem wListRg_ap {tr : DX → Sls → Sto → (Int → Int → Sto → Prop) → Prop} {Ed : DX} {sl : Sls} {st : Sto} {Q : DK} : wListRg tr Ed sl st Q = (tr Ed sl st fun i j st => RgOk i j ∧ Q (.d (.list (rng i (j - i).toNat))) st) := rfl
theorem glI {mg : Str → Option Value} {x : Str} {i : Int} (h : ∃ t, mg x = some (.int i t)) : ∃ u, mg x = some u ∧ RelV (.int i) u := by
  obtain ⟨t, e⟩ := h; exact ⟨_, e, t, rfl⟩
end Pz
set_option maxRecDepth 100000
namespace Pz
open PySem PySem.Spec PyProof.Rows L2 TL SrtO
variable [PenC]
section
variable {prog : Program} {w : World} {A : Around} {E : Value → Shared → Prop} {s : Shared} {l : Addr} {its : List Value} {ns : List Int} {Q : Value → Shared → Prop}
theorem iterT {items : Array Value} (hl : s.heap.IsTuple l items)
    (h : ∀ s₂ : Shared, s₂ = { s with heap := s.heap.push { cls := .type "tuple_iterator", data := .fields #[.ref l, .int 0 0] } } →
      (s₂.heap.IsTupleIter s.heap.objs.size l 0 ∧ s₂.heap.IsTuple l items) → (∀ b ∈ [s.heap.objs.size, l], b < s₂.heap.objs.size) → l ≠ s.heap.objs.size → Q (.ref s.heap.objs.size) s₂) :
    wpAny (model prog w) A (pyIter (.ref l)) Q E s := by
  have hlt : l < s.heap.objs.size := by obtain ⟨_, e, _⟩ := hl; exact Heap.lt_size e
  have hp : ∀ o, (s.heap.push o).IsTuple l items := fun o => by
    obtain ⟨o', e, c, n, d⟩ := hl
    exact ⟨o', Heap.get?_push_of_some _ e, c, n, d⟩
  refine wpAny_pyIter_tuple hl (h _ rfl ⟨⟨_, Heap.get?_push_size _ rfl, rfl, rfl⟩, hp _⟩ (fun b hb => ?_) (Nat.ne_of_lt hlt))
  show b < (s.heap.push _).objs.size
  rw [Heap.size_push]
  rcases List.mem_cons.mp hb with rfl | hb
  · exact Nat.lt_succ_self _
  · rw [List.mem_singleton.mp hb]; exact Nat.lt_succ_of_lt hlt
theorem keptT {h' : Heap} {o : Obj} (hk : ∀ b o', b ∉ [s.heap.objs.size] → (s.heap.push o).get? b = some o' → h'.get? b = some o') : ∀ b o, s.heap.get? b = some o → h'.get? b = some o := fun b o e => by
  refine hk b o (fun hm => ?_) (Heap.get?_push_of_some _ e)
  rw [List.mem_singleton.mp hm] at e
  exact absurd (Heap.lt_size e) (Nat.lt_irrefl _)
theorem sum_rawT (hh : A.handled = none) (hl : s.heap.IsTuple l its.toArray) (hi : IntsAre its ns)
    (h : ∀ h' tk t', (∀ b o, s.heap.get? b = some o → h'.get? b = some o) → Q (.int ns.sum t') { s with heap := h', toks := tk }) : wpAny (model prog w) A (call (.builtin "sum") [.ref l]) Q E s := by
  obtain ⟨xs, e⟩ := hi.allInts.items
  have hn : numsOf (intItems xs).toList = ns := by rw [← e]; exact hi.numsOf
  rw [nums_intItems] at hn
  rw [e] at hl
  refine call_sum_walkG (iterT hl fun s₂ e st hfp hlI => ?_)
  subst e
  refine ⟨_, _, _, _, _, _, numAt xs, rfl, Walks.tuple (A := A.in1) hh _ l hlI (intItems xs), st, hfp, (fun _ _ => intItems_at), fun h' tk t' hk => ?_⟩
  have := h h' tk t' (keptT hk)
  rw [← hn] at this
  rw [show (intItems xs).size = xs.size by simp [intItems], preSum_eq, List.take_of_length_le (by simp)]
  exact this
theorem max_rawT (hh : A.handled = none) (hl : s.heap.IsTuple l its.toArray) (hi : IntsAre its ns) (hne : 0 < ns.length)
    (h : ∀ h' tk M t', (∀ b o, s.heap.get? b = some o → h'.get? b = some o) → M ∈ ns → (∀ a, a ∈ ns → a ≤ M) → Q (.int M t') { s with heap := h', toks := tk }) : wpAny (model prog w) A (call (.builtin "max") [.ref l]) Q E s := by
  obtain ⟨xs, e⟩ := hi.allInts.items
  have hn : numsOf (intItems xs).toList = ns := by rw [← e]; exact hi.numsOf
  rw [nums_intItems] at hn
  subst hn
  rw [e] at hl
  have hsz : 0 < xs.size := by simpa using hne
  refine call_max_walk (iterT hl fun s₂ e st hfp hlI => ?_)
  subst e
  refine ⟨_, _, _, _, _, _, _, rfl, Walks.tuple (A := A.in1) hh _ l hlI (intItems xs), st, hfp, by simpa [intItems] using hsz, CmpOf.ints_gt (numAt xs) (fun _ _ => intItems_at), fun v h' tk hP hk => ?_⟩
  have hv : (intItems xs)[argBest (fun i j => decide (numAt xs i > numAt xs j)) (xs.size - 1)]? = some v := by simpa [intItems] using hP
  obtain ⟨t, rfl⟩ := intItems_at hv
  obtain ⟨h1, h2⟩ := argBest_gt (numAt xs) (xs.size - 1)
  refine h h' tk _ t (keptT hk) ?_ fun a ha => ?_
  · rw [numAt_eq]; exact PySem.getD_mem (by rw [List.length_map, Array.length_toList]; omega)
  · obtain ⟨j, hj, rfl⟩ := mem_getD ha
    rw [List.length_map, Array.length_toList] at hj
    rw [← numAt_eq]; exact h2 j (by omega)
theorem min_rawT (hh : A.handled = none) (hl : s.heap.IsTuple l its.toArray) (hi : IntsAre its ns) (hne : 0 < ns.length)
    (h : ∀ h' tk M t', (∀ b o, s.heap.get? b = some o → h'.get? b = some o) → M ∈ ns → (∀ a, a ∈ ns → M ≤ a) → Q (.int M t') { s with heap := h', toks := tk }) : wpAny (model prog w) A (call (.builtin "min") [.ref l]) Q E s := by
  obtain ⟨xs, e⟩ := hi.allInts.items
  have hn : numsOf (intItems xs).toList = ns := by rw [← e]; exact hi.numsOf
  rw [nums_intItems] at hn
  subst hn
  rw [e] at hl
  have hsz : 0 < xs.size := by simpa using hne
  refine call_min_walk (iterT hl fun s₂ e st hfp hlI => ?_)
  subst e
  refine ⟨_, _, _, _, _, _, _, rfl, Walks.tuple (A := A.in1) hh _ l hlI (intItems xs), st, hfp, by simpa [intItems] using hsz, CmpOf.ints_lt (numAt xs) (fun _ _ => intItems_at), fun v h' tk hP hk => ?_⟩
  have hv : (intItems xs)[argBest (fun i j => decide (numAt xs i < numAt xs j)) (xs.size - 1)]? = some v := by simpa [intItems] using hP
  obtain ⟨t, rfl⟩ := intItems_at hv
  obtain ⟨h1, h2⟩ := argBest_lt (numAt xs) (xs.size - 1)
  refine h h' tk _ t (keptT hk) ?_ fun a ha => ?_
  · rw [numAt_eq]; exact PySem.getD_mem (by rw [List.length_map, Array.length_toList]; omega)
  · obtain ⟨j, hj, rfl⟩ := mem_getD ha
    rw [List.length_map, Array.length_toList] at hj
    rw [← numAt_eq]; exact h2 j (by omega)
end
section
variable {X : Cx} {K : Frag}
def rSumT (K : Frag) : List V → Hp → VK → Prop := fun vs H Q => ∃ (a : Addr) (ns : List Int), vs = [V.ref a] ∧ SqT K H a (ns.map V.int) ∧ Q (.int ns.sum) H
def rMaxT (K : Frag) : List V → Hp → VK → Prop := fun vs H Q => ∃ (a : Addr) (ns : List Int), vs = [V.ref a] ∧ SqT K H a (ns.map V.int) ∧ 0 < ns.length ∧ ∀ m, m ∈ ns → (∀ y, y ∈ ns → y ≤ m) → Q (.int m) H
def rMinT (K : Frag) : List V → Hp → VK → Prop := fun vs H Q => ∃ (a : Addr) (ns : List Int), vs = [V.ref a] ∧ SqT K H a (ns.map V.int) ∧ 0 < ns.length ∧ ∀ m, m ∈ ns → (∀ y, y ∈ ns → m ≤ y) → Q (.int m) H
def rSortedIT (K : Frag) : List V → Hp → VK → Prop := fun vs H Q => ∃ (a : Addr) (ns : List Int), vs = [V.ref a] ∧ SqT K H a (ns.map V.int) ∧ ∀ (ns' : List Int) (p : Addr), ns'.Perm ns → ns'.Pairwise (· ≤ ·) → H p = none → Q (.ref p) (upd H p (.lst (ns'.map V.int)))
theorem cr_sumT (hc : X.calm = true) : CallR X (.builtin "sum") (rSumT X.K) := by
  intro pins s σ H vs us Q I r h
  obtain ⟨a, ns, rfl, hs, q⟩ := h
  obtain ⟨its, rv, hl, _⟩ := I.tuple hs
  rw [Vals.ref1 r]
  exact sum_rawT (I.ok.hd hc) hl rv.ints fun h' tk t' hk => ⟨.int _, H, I.kept hk, ⟨_, rfl⟩, q⟩
theorem cr_maxT (hc : X.calm = true) : CallR X (.builtin "max") (rMaxT X.K) := by
  intro pins s σ H vs us Q I r h
  obtain ⟨a, ns, rfl, hs, hne, q⟩ := h
  obtain ⟨its, rv, hl, _⟩ := I.tuple hs
  rw [Vals.ref1 r]
  exact max_rawT (I.ok.hd hc) hl rv.ints hne fun h' tk m t' hk h1 h2 => ⟨.int _, H, I.kept hk, ⟨_, rfl⟩, q m h1 h2⟩
theorem cr_minT (hc : X.calm = true) : CallR X (.builtin "min") (rMinT X.K) := by
  intro pins s σ H vs us Q I r h
  obtain ⟨a, ns, rfl, hs, hne, q⟩ := h
  obtain ⟨its, rv, hl, _⟩ := I.tuple hs
  rw [Vals.ref1 r]
  exact min_rawT (I.ok.hd hc) hl rv.ints hne fun h' tk m t' hk h1 h2 => ⟨.int _, H, I.kept hk, ⟨_, rfl⟩, q m h1 h2⟩
def vwJ (st : Sto) (s : Sl) : Option (List Int) := match vw st s with
  | some (.list ds) => asInts ds
  | some (.tuple ds) => asInts ds
  | _ => none
theorem vwJ_ok {Z : Zs} (ok : Ok K Z) {v : V} {s : Sl} {ns : List Int} (r : Rp K Z v s) (e : vwJ Z.st s = some ns) : ∃ a, v = .ref a ∧ (SqL K Z.H a (ns.map V.int) ∨ SqT K Z.H a (ns.map V.int)) := by
  unfold vwJ at e
  split at e
  · rename_i ds e1
    obtain ⟨a, xs, rfl, h, q⟩ := r.list ok e1
    rw [asInts_eq e] at q
    rw [im_ints q] at h
    exact ⟨a, rfl, .inl (.of h)⟩
  · rename_i ds e1
    obtain ⟨a, xs, rfl, h, q⟩ := r.tuple e1
    rw [asInts_eq e] at q
    rw [im_ints q] at h
    exact ⟨a, rfl, .inr h.sq⟩
  · cases e
def fSumE : FA := fun ss st Q => match ss with
  | [s] => ∃ ns, vwJ st s = some ns ∧ Q (.d (.int ns.sum)) st
  | _ => False
theorem cd_sumE : CallD K (fun xs H Q => rSum K xs H Q ∨ rSumT K xs H Q) fSumE := by
  intro Z vs ss Qd Q ok ra w k
  unfold fSumE at w
  split at w
  · obtain ⟨v, rfl, r⟩ := rp1 ra
    obtain ⟨ns, e, w⟩ := w
    obtain ⟨a, rfl, h⟩ := vwJ_ok ok r e
    rcases h with h | h
    · exact .inl ⟨a, ns, rfl, h, k.now ok (.int _) w⟩
    · exact .inr ⟨a, ns, rfl, h, k.now ok (.int _) w⟩
  · exact w.elim
def fSortedE : FA := fun ss st Q => match ss with
  | [s] => ∃ ns, vwJ st s = some ns ∧ Q (.d (.list ((isort ns).map .int))) st
  | _ => False
theorem lmax_of {ns : List Int} (h : 0 < ns.length) {m : Int} (h1 : m ∈ ns) (h2 : ∀ y ∈ ns, y ≤ m) : m = lmax ns := by
  obtain ⟨a, b⟩ := lmax_mem h
  exact Int.le_antisymm (b m h1) (h2 _ a)
theorem lmin_of {ns : List Int} (h : 0 < ns.length) {m : Int} (h1 : m ∈ ns) (h2 : ∀ y ∈ ns, m ≤ y) : m = lmin ns := by
  obtain ⟨a, b⟩ := lmin_mem h
  exact Int.le_antisymm (h2 _ a) (b m h1)
theorem if_max {i j : Int} : (if j > i then j else i) = max i j := by split <;> omega
theorem if_min {i j : Int} : (if j < i then j else i) = min i j := by split <;> omega
def fMaxE : FA := fun ss st Q => match ss with
  | [s] => ∃ ns, vwJ st s = some ns ∧ 0 < ns.length ∧ Q (.d (.int (lmax ns))) st
  | [s, t] => match vw st s, vw st t with
    | some (.int i), some (.int j) => Q (.d (.int (max i j))) st
    | _, _ => False
  | _ => False
theorem cd_maxE : CallD K (fun xs H Q => (rMax K xs H Q ∨ rMaxT K xs H Q) ∨ ∃ i j, xs = [.int i, .int j] ∧ Q (.int (if j > i then j else i)) H) fMaxE := by
  intro Z vs ss Qd Q ok ra w k
  unfold fMaxE at w
  split at w
  · obtain ⟨v, rfl, r⟩ := rp1 ra
    obtain ⟨ns, e, hn, w⟩ := w
    obtain ⟨a, rfl, h⟩ := vwJ_ok ok r e
    rcases h with h | h
    · exact .inl (.inl ⟨a, ns, rfl, h, hn, fun m h1 h2 => k.now ok (.int _) (lmax_of hn h1 h2 ▸ w)⟩)
    · exact .inl (.inr ⟨a, ns, rfl, h, hn, fun m h1 h2 => k.now ok (.int _) (lmax_of hn h1 h2 ▸ w)⟩)
  · obtain ⟨v, u, rfl, r1, r2⟩ := rp2 ra
    split at w
    · rename_i i j e1 e2
      obtain rfl := r1.int e1
      obtain rfl := r2.int e2
      exact .inr ⟨i, j, rfl, if_max ▸ k.now ok (.int _) w⟩
    · exact w.elim
  · exact w.elim
def fMinE : FA := fun ss st Q => match ss with
  | [s] => ∃ ns, vwJ st s = some ns ∧ 0 < ns.length ∧ Q (.d (.int (lmin ns))) st
  | [s, t] => match vw st s, vw st t with
    | some (.int i), some (.int j) => Q (.d (.int (min i j))) st
    | _, _ => False
  | _ => False
theorem cd_minE : CallD K (fun xs H Q => (rMin K xs H Q ∨ rMinT K xs H Q) ∨ ∃ i j, xs = [.int i, .int j] ∧ Q (.int (if j < i then j else i)) H) fMinE := by
  intro Z vs ss Qd Q ok ra w k
  unfold fMinE at w
  split at w
  · obtain ⟨v, rfl, r⟩ := rp1 ra
    obtain ⟨ns, e, hn, w⟩ := w
    obtain ⟨a, rfl, h⟩ := vwJ_ok ok r e
    rcases h with h | h
    · exact .inl (.inl ⟨a, ns, rfl, h, hn, fun m h1 h2 => k.now ok (.int _) (lmin_of hn h1 h2 ▸ w)⟩)
    · exact .inl (.inr ⟨a, ns, rfl, h, hn, fun m h1 h2 => k.now ok (.int _) (lmin_of hn h1 h2 ▸ w)⟩)
  · obtain ⟨v, u, rfl, r1, r2⟩ := rp2 ra
    split at w
    · rename_i i j e1 e2
      obtain rfl := r1.int e1
      obtain rfl := r2.int e2
      exact .inr ⟨i, j, rfl, if_min ▸ k.now ok (.int _) w⟩
    · exact w.elim
  · exact w.elim
theorem cr_sumE (hc : X.calm = true) : CallR X (.builtin "sum") (fun xs H Q => rSum X.K xs H Q ∨ rSumT X.K xs H Q) := (cr_sum hc).or (cr_sumT hc)
theorem cr_maxE (hc : X.calm = true) : CallR X (.builtin "max") (fun xs H Q => (rMax X.K xs H Q ∨ rMaxT X.K xs H Q) ∨ ∃ i j, xs = [.int i, .int j] ∧ Q (.int (if j > i then j else i)) H) := ((cr_max hc).or (cr_maxT hc)).or (call_max2 hc)
theorem cr_minE (hc : X.calm = true) : CallR X (.builtin "min") (fun xs H Q => (rMin X.K xs H Q ∨ rMinT X.K xs H Q) ∨ ∃ i j, xs = [.int i, .int j] ∧ Q (.int (if j < i then j else i)) H) := ((cr_min hc).or (cr_minT hc)).or (call_min2 hc)
theorem vwJ_l {st : Sto} {ds : List PyData} : vwJ st (.d (.list ds)) = asInts ds := rfl
theorem vwJ_t {st : Sto} {ds : List PyData} : vwJ st (.d (.tuple ds)) = asInts ds := rfl
def mJoinE : FM := fun s ss st Q => match ss with
  | [t] => match vw st s with
    | some (.str a) => ∃ ys, vwS st t = some ys ∧ (ys.map (·.length)).sum + ys.length * a.length ≤ 16777216 ∧ Q (.d (.str (Txt.join a ys))) st
    | _ => False
  | _ => False
theorem md_joinE : MetD K (fun x xs H Q => ∃ a p, ∃ ys : List Str, x = .str a ∧ xs = [.ref p] ∧ (SqL K H p (ys.map V.str) ∨ SqT K H p (ys.map V.str)) ∧
    (ys.map (·.length)).sum + ys.length * a.length ≤ 16777216 ∧ Q (.str (Txt.join a ys)) H) mJoinE := fun Z v s vs ss Qd Q ok rs ra w k => by
  refine md_join Z v s vs ss Qd Q ok rs ra ?_ k
  unfold mJoinE at w
  unfold mJoin
  split at w
  · split at w
    · obtain ⟨ys, e, w⟩ := w
      rename_i e1
      first | (dsimp only; rw [e1, e]; exact w) | (dsimp only; rw [e]; exact w) | (rw [e]; exact w) | (rw [e1, e]; exact w) | (simp only [e1, e]; exact w)
    · exact w.elim
  · exact w.elim
theorem vwS_l {st : Sto} {ds : List PyData} : vwS st (.d (.list ds)) = asStrs ds := rfl
theorem vwS_t {st : Sto} {ds : List PyData} : vwS st (.d (.tuple ds)) = asStrs ds := rfl
end
theorem eqv_nn : PyData.eqv (.list []) (.list []) = true := rfl
def intsB (ds : List PyData) : Bool := ds.all fun d => match d with
  | .int x => decide (0 ≤ x)
  | _ => false
end Pz
set_option maxRecDepth 100000
namespace Pz
open PySem PySem.Spec PyProof.Rows L2 TL RZ
variable [PenC]
section
variable {X : Cx} {E : WXs} {Z0 : Zs} {a b c e : Expr} {es : List Expr} {ta tb tc te : DE} {t : DA} {pos p tpos : Pos} {x : Str} {K : Frag} {elts : List Expr} {kk : Nat}
def oAddO (x y : Sl) (st : Sto) (Q : DK) : Prop := match vw st x, vw st y with
  | some (.list ds), some (.list es) => ds.length + es.length ≤ sizeLine ∧ Q (.o st.length) (st ++ [.lst (ds ++ es)])
  | _, _ => False
def oMulO (x y : Sl) (st : Sto) (Q : DK) : Prop := match vw st x, vw st y with
  | some (.list ds), some (.int n) => -(2 ^ 63) ≤ n ∧ n < 2 ^ 63 ∧ ds.length * n.toNat ≤ sizeLine ∧ Q (.o st.length) (st ++ [.lst (List.replicate n.toNat ds).flatten])
  | _, _ => False
def rngc (lo c : Int) (n : Nat) : List PyData := (List.range n).map fun i => .int (lo + (i : Nat) * c)
def wRng3 (t : DA) : DI := fun Ed sl st Q => t Ed sl st fun ss st => match ss with
  | [s, s', s''] => match vw st s, vw st s', vw st s'' with
    | some (.int i), some (.int j), some (.int c) => ∃ n, RgC i j c n ∧ Q (rngc i c n) st
    | _, _, _ => False
  | _ => False
def enumD : Nat → List PyData → List PyData
  | _, [] => []
  | k, d :: ds => .tuple [.int (k : Nat), d] :: enumD (k + 1) ds
def wEnum (te : DA) : DI := fun Ed sl st Q => te Ed sl st fun ss st => match ss with
  | [.d (.list ds)] => Q (enumD 0 ds) st
  | _ => False
def zipD (ds es : List PyData) : List PyData := List.zipWith (fun a b => .tuple [a, b]) ds es
def wZip (te : DA) : DI := fun Ed sl st Q => te Ed sl st fun ss st => match ss with
  | [.d (.list ds), .d (.list es)] => Q (zipD ds es) st
  | [.d (.tuple ds), .d (.tuple es)] => Q (zipD ds es) st
  | _ => False
theorem wRng3_ap {t : DA} {Ed : DX} {sl : Sls} {st : Sto} {Q : List PyData → Sto → Prop} : wRng3 t Ed sl st Q = (t Ed sl st fun ss st => match ss with
  | [s, s', s''] => match vw st s, vw st s', vw st s'' with
    | some (.int i), some (.int j), some (.int c) => ∃ n, RgC i j c n ∧ Q (rngc i c n) st
    | _, _, _ => False
  | _ => False) := rfl
theorem wEnum_ap {te : DA} {Ed : DX} {sl : Sls} {st : Sto} {Q : List PyData → Sto → Prop} : wEnum te Ed sl st Q = (te Ed sl st fun ss st => match ss with
  | [.d (.list ds)] => Q (enumD 0 ds) st
  | _ => False) := rfl
theorem wZip_ap {te : DA} {Ed : DX} {sl : Sls} {st : Sto} {Q : List PyData → Sto → Prop} : wZip te Ed sl st Q = (te Ed sl st fun ss st => match ss with
  | [.d (.list ds), .d (.list es)] => Q (zipD ds es) st
  | [.d (.tuple ds), .d (.tuple es)] => Q (zipD ds es) st
  | _ => False) := rfl
def spQO (k : Nat) (f : FD) : DSp := fun ss cs Q Ed => match ss, cs with
  | .o 0 :: r, [c] => ∃ n, Pen n c ∧ n + k ≤ 1000000 ∧ f r fun d => match d with
    | .list ds => ∀ c', Pen (n + k) c' → Q (.o 1) [c', .lst ds]
    | _ => False
  | _, _ => False
variable {f : FD} {n k m : Nat} {N : List Str} {τ : DS}
def aQO (k : Nat) (f : FD) (ss : List Sl) (st : Sto) (Q : DK) : Prop := match ss with
  | .o h :: r => ∃ c, st[h]? = some c ∧ ∃ n, Pen n c ∧ n + k ≤ 1000000 ∧ f r fun d => match d with
    | .list ds => ∀ c', Pen (n + k) c' → Q (.o st.length) (st.set h c' ++ [.lst ds])
    | _ => False
  | _ => False
def wCallQO (k : Nat) (f : FD) (t : DA) : DE := fun Ed sl st Q => t Ed sl st fun ss st => aQO k f ss st Q
theorem wCallQO_ap {f : FD} {t : DA} {Ed : DX} {sl : Sls} {st : Sto} {Q : DK} : wCallQO k f t Ed sl st Q = (t Ed sl st fun ss st => aQO k f ss st Q) := rfl
variable {fa : Addr} {fd : FuncData} {ps : List Str}
end
theorem ret1_o2 {C D : Ct} {ds : List PyData} {st : Sto} {Q : DK} : Ret 1 (.o 2) (C :: D :: .lst ds :: st) Q = (Cl 1 C ∧ Q (.o 1) [C, .lst ds]) := by simp [Ret, Ct.live, Cl]
theorem seq_cut {t u : DS} {nx bk ct : Sls → Sto → Prop} {rt : DK} {ex : DX} {sl : Sls} {σ : Sto} (J : Sls → Sto → Prop) (h1 : ∀ R : Sls → Sto → Prop, (∀ sl st, J sl st → R sl st) → t ⟨R, rt, ex, bk, ct⟩ sl σ)
    (h2 : ∀ sl st, J sl st → u ⟨nx, rt, ex, bk, ct⟩ sl st) : wSeq t u ⟨nx, rt, ex, bk, ct⟩ sl σ := h1 _ h2
theorem Ints.get {P : Int → Prop} {ds : List PyData} {i : Int} (h : Ints P ds) (h0 : 0 ≤ i) (h1 : i < ds.length) : ∃ x, ds[i.toNat]? = some (.int x) ∧ atI ds i = some (.int x) ∧ ixN ds.length i = some i.toNat ∧ P x := by
  obtain ⟨y, e, m⟩ := atI_lt h0 h1
  obtain ⟨x, rfl, hx⟩ := h y m
  exact ⟨x, by rw [← atI_at h0 h1]; exact e, e, ixN_lt h0 h1, hx⟩
theorem eqv_nilL {ds : List PyData} : PyData.eqv (.list ds) (.list []) = ds.isEmpty := by cases ds <;> rfl
end Pz
set_option maxRecDepth 100000
namespace Pz
open PySem PySem.Spec PyProof.Rows L2 TL RZ
variable [PenC]
section
variable {X : Cx} {K : Frag}
def idxD (ds : List PyData) (d : PyData) : Option Nat := ds.findIdx? fun z => PyData.eqv z d
def mIndex : FM := fun s ss st Q => match ss with
  | [t] => match vw st s, vw st t with
    | some (.list ds), some d => SeqAt.shaped (.list ds) = true ∧ SeqAt.shaped d = true ∧ ∃ j, idxD ds d = some j ∧ Q (.d (.int (j : Nat))) st
    | _, _ => False
  | _ => False
def trimS (n : Nat) : Option Sl → Option Sl
  | some (.o h) => if h < n then some (.o h) else none
  | s => s
theorem slok_trim {K : Frag} {Z Z' : Zs} {n : Nat} {σ : L2.St} {sl : Sls} (so : SlOk K Z σ sl) (hr : ∀ v s, SlIn n s → Rp K Z v s → Rp K Z' v s) : SlOk K Z' σ (sl.map (trimS n)) := by
  refine ⟨by rw [List.length_map]; exact so.len, fun i s e => ?_⟩
  rw [List.getElem?_map] at e
  cases q : sl[i]? with
  | none => rw [q] at e; cases e
  | some o =>
    rw [q] at e
    simp only [Option.map_some, Option.some.injEq] at e
    cases o with
    | none => simp [trimS] at e
    | some s' =>
      obtain ⟨v, ev, rv⟩ := so.has i s' q
      cases s' with
      | o h =>
        simp only [trimS] at e
        split at e
        · cases e; exact ⟨v, ev, hr _ _ (by assumption) rv⟩
        · cases e
      | d x => cases e; exact ⟨v, ev, hr _ _ trivial rv⟩
      | r u => cases e; exact ⟨v, ev, hr _ _ trivial rv⟩
      | l _ _ _ => cases e; exact ⟨v, ev, hr _ _ trivial rv⟩
      | f ns => cases e; exact ⟨v, ev, hr _ _ trivial rv⟩
def wTrim (n0 : Nat) (u : DS) : DS := fun D sl st => ∃ n, n0 ≤ n ∧ (∀ c ∈ st.take n, Cl n c) ∧ u D (sl.map (trimS n)) (st.take n)
theorem wTrim_mk {n0 : Nat} {u : DS} {nx bk ct : Sls → Sto → Prop} {rt : DK} {ex : DX} {sl : Sls} {st : Sto} : wTrim n0 u ⟨nx, rt, ex, bk, ct⟩ sl st = ∃ n, n0 ≤ n ∧ (∀ c ∈ st.take n, Cl n c) ∧ u ⟨nx, rt, ex, bk, ct⟩ (sl.map (trimS n)) (st.take n) := rfl
theorem dss_trim {E : WXs} {Z0 : Zs} {rest : List Stmt} {u : DS} (n0 : Nat) (hn : Z0.st.length = n0) (h : DSs X E Z0 rest u) : DSs X E Z0 rest (wTrim n0 u) :=
  ⟨pssI h.run fun D σ H ⟨Z, sl, Dd, hh, l0, ok, so, w, en⟩ => by
    subst hh
    obtain ⟨n, w1, w2, w3⟩ := w
    have hW : ∀ a, (Zs.mk (Z.φ.take n) (Z.st.take n) Z.H Z.F).W a → Z.W a := by
      rintro a (⟨i, c, e1, e2, e3⟩ | w)
      · have e1' : (Z.φ.take n)[i]? = some a := e1
        have e2' : (Z.st.take n)[i]? = some c := e2
        have hi : i < n := by
          have := (List.getElem?_eq_some_iff.mp e1').1
          rw [List.length_take] at this
          omega
        rw [take_get hi] at e1' e2'
        exact .inl ⟨i, c, e1', e2', e3⟩
      · exact .inr w
    have lt : ∀ {i : Nat} {a : Addr}, (Z.φ.take n)[i]? = some a → i < n := fun e => by
      have := (List.getElem?_eq_some_iff.mp e).1
      rw [List.length_take] at this
      omega
    have ok' : Ok X.K (Zs.mk (Z.φ.take n) (Z.st.take n) Z.H Z.F) := by
      refine ⟨?_, ok.nd.sublist (List.take_sublist _ _), fun i a c e1 e2 => ?_, ok.fo, fun a m => ok.fd a (List.mem_of_mem_take m), ok.tb.less hW⟩
      · show (Z.φ.take n).length = (Z.st.take n).length
        rw [List.length_take, List.length_take, ok.len]
      · have e1' : (Z.φ.take n)[i]? = some a := e1
        have e2' : (Z.st.take n)[i]? = some c := e2
        have hi := lt e1'
        have hc := w2 c (List.mem_of_getElem? e2')
        rw [take_get hi] at e1' e2'
        exact ct_less (Z := Z) (Z' := Zs.mk (Z.φ.take n) (Z.st.take n) Z.H Z.F) (n := n) rfl rfl hW (fun j hj => take_get hj) (fun j hj => take_get hj) hc (ok.ct i a c e1' e2')
    have n0φ : Z0.φ.length = n0 := by rw [← l0.len]; exact hn
    have l' : Le Z0 (Zs.mk (Z.φ.take n) (Z.st.take n) Z.H Z.F) := by
      obtain ⟨ψ, eφ, hψ⟩ := l0.pre
      refine ⟨⟨ψ.take (n - n0), ?_, fun a m => hψ a (List.mem_of_mem_take m)⟩, l0.len, fun i c e => ?_, l0.frm, l0.fgn, l0.dom⟩
      · show Z.φ.take n = _
        rw [eφ, List.take_append, n0φ, List.take_of_length_le (by omega)]
      · obtain ⟨c', q1, q2⟩ := l0.liv i c e
        have hi : i < n := by
          have := (List.getElem?_eq_some_iff.mp e).1
          omega
        exact ⟨c', by show (Z.st.take n)[i]? = _; rw [take_get hi]; exact q1, q2⟩
    refine ⟨Zs.mk (Z.φ.take n) (Z.st.take n) Z.H Z.F, _, Dd, rfl, l', ok', slok_trim so fun v s hs r => rp_less (Z := Z) (Z' := Zs.mk (Z.φ.take n) (Z.st.take n) Z.H Z.F) (n := n) rfl rfl hW (fun j hj => take_get hj) (fun j hj => take_get hj) hs r, w3, en.at ?_⟩
    exact Stay.less hW⟩
end
end Pz
set_option maxRecDepth 100000
namespace Pz
open PySem PySem.Spec PyProof.Rows L2 TL
variable [PenC]
def oIadd (x y : Sl) (st : Sto) (Q : DK) : Prop := match vw st x, vw st y with
  | some (.int i), some (.int j) => Q (.d (.int (i + j))) st
  | some (.str a), some (.str b) => a.length + b.length ≤ sizeLine ∧ Q (.d (.str (a ++ b))) st
  | _, _ => False
def rIadd : R2 := fun x y H Q => rI0 (fun i j => .int (i + j)) x y H Q ∨ (∃ i j, x = .str i ∧ y = .str j ∧ i.length + j.length ≤ sizeLine ∧ Q (.str (i ++ j)) H)
end Pz
set_option maxRecDepth 100000
namespace Pz
open PySem PySem.Spec PyProof.Rows L2 TL
variable [PenC]
section
variable {X : Cx} {E : WXs} {Z0 : Zs} {a b c e : Expr} {es : List Expr} {ta tb tc te ti to : DE} {t : DA} {pos p : Pos} {x : Str} {K : Frag}
def tyName : PyData → String
  | .none => "NoneType"
  | .bool _ => "bool"
  | .int _ => "int"
  | .str _ => "str"
  | .list _ => "list"
  | .tuple _ => "tuple"
  | .dict _ => "dict"
def isTyB (T n : String) : Bool := n == T || (T == "int" && n == "bool")
theorem kit_is {K : Frag} : ∀ T ∈ (["int", "bool", "str", "tuple", "list", "dict"] : List String), ∀ n ∈ (["NoneType", "bool", "int", "str", "list", "tuple", "dict"] : List String), PySem.W.kitOne K (.type n) (.type T) = some (isTyB T n) := by
  intro T hT n hn
  simp only [List.mem_cons, List.not_mem_nil, or_false] at hT hn
  rcases hT with rfl | rfl | rfl | rfl | rfl | rfl <;> rcases hn with rfl | rfl | rfl | rfl | rfl | rfl | rfl <;> with_unfolding_all rfl
inductive TyY (K : Frag) (H : Hp) : V → Value → Prop where
  | x {v : V} {t : Value} (h : TyX K H v t) : TyY K H v t
  | fDT {a : Addr} {o : Obj} {kvs : List (List Key × V)} (e : H a = some (.frz o (.dT kvs))) : TyY K H (.ref a) (.type "dict")
def rIsi2 (K : Frag) : List V → Hp → VK → Prop := fun xs H Q => ∃ (x c : V) (t u : Value) (b : Bool), xs = [x, c] ∧ L2.ClsV c u ∧ TyY K H x t ∧ PySem.W.kitOne K t u = some b ∧ Q (.bl b) H
def okTy (T : String) : Bool := (["int", "bool", "str", "tuple", "list", "dict"] : List String).contains T
def fIsi : FA := fun ss st Q => match ss with
  | [s, .r (.ty T)] => match vw st s with
    | some d => okTy T = true ∧ Q (.d (.bool (isTyB T (tyName d)))) st
    | none => False
  | _ => False
abbrev KD := List (Key × PyData)
def valD (kvs : KD) (k : Key) : Option PyData := (kvs.find? fun kv => decide (kv.1 = k)).map (·.2)
def putD (kvs : KD) (k : Key) (d : PyData) : KD := if (kvs.any fun kv => decide (kv.1 = k)) = true then kvs.map fun kv => if kv.1 = k then (kv.1, d) else kv else kvs ++ [(k, d)]
def mergeD (kvs more : KD) : KD := more.foldl (fun acc kv => putD acc kv.1 kv.2) kvs
def keyOf : PyData → Option Key
  | .int i => some (.inl i)
  | .str z => some (.inr z)
  | _ => none
theorem keyOf_ok {Z : Zs} {v : V} {s : Sl} {d : PyData} {k : Key} (r : Rp K Z v s) (e : vw Z.st s = some d) (h : keyOf d = some k) : v = kV k := by
  unfold keyOf at h
  split at h
  · cases h; exact r.int e
  · cases h; exact r.str e
  · cases h
def ImKD (K : Frag) (W : Addr → Prop) (H : Hp) (us : List (Key × V)) (kvs : KD) : Prop := us.map (·.1) = kvs.map (·.1) ∧ ImAll K W H (us.map (·.2)) (kvs.map (·.2))
section
variable {W : Addr → Prop} {H : Hp}
theorem ImKD.nil : ImKD K W H [] [] := ⟨rfl, .nil⟩
theorem ImKD.inv {us : List (Key × V)} {kvs : KD} (h : ImKD K W H us kvs) : (us = [] ∧ kvs = []) ∨ ∃ k v d us' kvs', us = (k, v) :: us' ∧ kvs = (k, d) :: kvs' ∧ Im K W H v d ∧ ImKD K W H us' kvs' := by
  obtain ⟨h1, h2⟩ := h
  cases us with
  | nil => cases kvs with
    | nil => exact .inl ⟨rfl, rfl⟩
    | cons _ _ => cases h1
  | cons u us => cases kvs with
    | nil => cases h1
    | cons kv kvs =>
      obtain ⟨k, v⟩ := u
      obtain ⟨k', d⟩ := kv
      simp only [List.map_cons, List.cons.injEq] at h1
      obtain ⟨rfl, h1⟩ := h1
      cases h2 with
      | cons q r => exact .inr ⟨k, v, d, us, kvs, rfl, rfl, q, h1, r⟩
theorem ImKD.cons {k : Key} {v : V} {d : PyData} {us : List (Key × V)} {kvs : KD} (q : Im K W H v d) (h : ImKD K W H us kvs) : ImKD K W H ((k, v) :: us) ((k, d) :: kvs) := ⟨by rw [List.map_cons, List.map_cons, h.1], .cons q h.2⟩
theorem ImKD.app : ∀ {us us' : List (Key × V)} {kvs kvs' : KD}, ImKD K W H us kvs → ImKD K W H us' kvs' → ImKD K W H (us ++ us') (kvs ++ kvs') := fun h h' => ⟨by rw [List.map_append, List.map_append, h.1, h'.1], by rw [List.map_append, List.map_append]; exact h.2.append h'.2⟩
theorem ImKD.any {k : Key} : ∀ {us : List (Key × V)} {kvs : KD}, ImKD K W H us kvs → (us.any fun kv => decide (kv.1 = k)) = (kvs.any fun kv => decide (kv.1 = k))
  | [], _, h => by rcases h.inv with ⟨_, rfl⟩ | ⟨_, _, _, _, _, e, _⟩; rfl; cases e
  | u :: us, _, h => by
    rcases h.inv with ⟨e, _⟩ | ⟨k', v, d, us', kvs', e, rfl, q, h'⟩
    · cases e
    · cases e
      rw [List.any_cons, List.any_cons, ImKD.any h']
theorem ImKD.val {k : Key} {d : PyData} : ∀ {us : List (Key × V)} {kvs : KD}, ImKD K W H us kvs → valD kvs k = some d → ∃ v, valV us k = some v ∧ Im K W H v d
  | [], _, h, e => by rcases h.inv with ⟨_, rfl⟩ | ⟨_, _, _, _, _, e', _⟩; cases e; cases e'
  | u :: us, _, h, e => by
    rcases h.inv with ⟨e', _⟩ | ⟨k', v, d', us', kvs', e', rfl, q, h'⟩
    · cases e'
    · cases e'
      by_cases hk : k' = k
      · subst hk
        simp [valD] at e
        subst e
        exact ⟨v, by simp [valV], q⟩
      · have e2 : valD kvs' k = some d := by simpa [valD, hk] using e
        obtain ⟨v', h1, h2⟩ := ImKD.val h' e2
        exact ⟨v', by simpa [valV, hk] using h1, h2⟩
theorem ImKD.noval {k : Key} : ∀ {us : List (Key × V)} {kvs : KD}, ImKD K W H us kvs → valD kvs k = none → valV us k = none
  | [], _, h, e => rfl
  | u :: us, _, h, e => by
    rcases h.inv with ⟨e', _⟩ | ⟨k', v, d', us', kvs', e', rfl, q, h'⟩
    · cases e'
    · cases e'
      by_cases hk : k' = k
      · subst hk
        simp [valD] at e
      · have e2 : valD kvs' k = none := by simpa [valD, hk] using e
        simpa [valV, hk] using ImKD.noval h' e2
theorem ImKD.mapK {k : Key} {v : V} {d : PyData} (q : Im K W H v d) : ∀ {us : List (Key × V)} {kvs : KD}, ImKD K W H us kvs → ImKD K W H (us.map fun kv => if kv.1 = k then (kv.1, v) else kv) (kvs.map fun kv => if kv.1 = k then (kv.1, d) else kv)
  | [], _, h => by rcases h.inv with ⟨_, rfl⟩ | ⟨_, _, _, _, _, e', _⟩; exact .nil; cases e'
  | u :: us, _, h => by
    rcases h.inv with ⟨e', _⟩ | ⟨k', v', d', us', kvs', e', rfl, q', h'⟩
    · cases e'
    · cases e'
      have ih := ImKD.mapK (k := k) q h'
      rw [List.map_cons, List.map_cons]
      dsimp only
      split
      · exact .cons q ih
      · exact .cons q' ih
theorem ImKD.put {k : Key} {v : V} {d : PyData} (q : Im K W H v d) {us : List (Key × V)} {kvs : KD} (h : ImKD K W H us kvs) : ImKD K W H (putK us k v) (putD kvs k d) := by
  unfold putK putD
  rw [h.any]
  split
  · exact h.mapK q
  · exact h.app (.cons q .nil)
theorem ImKD.merge : ∀ {ms : List (Key × V)} {more : KD} {us : List (Key × V)} {kvs : KD}, ImKD K W H ms more → ImKD K W H us kvs → ImKD K W H (mergeK us ms) (mergeD kvs more)
  | [], _, us, kvs, h, h2 => by rcases h.inv with ⟨_, rfl⟩ | ⟨_, _, _, _, _, e', _⟩; exact h2; cases e'
  | m :: ms, _, us, kvs, h, h2 => by
    rcases h.inv with ⟨e', _⟩ | ⟨k', v', d', us', kvs', e', rfl, q', h'⟩
    · cases e'
    · cases e'
      exact ImKD.merge (us := putK us k' v') (kvs := putD kvs k' d') h' (h2.put q')
theorem ImKD.len {us : List (Key × V)} {kvs : KD} (h : ImKD K W H us kvs) : us.length = kvs.length := by
  have := congrArg List.length h.1
  simpa using this
theorem ImKD.tr {W' : Addr → Prop} {H' : Hp} (s : Stay W W' H H') {us : List (Key × V)} {kvs : KD} (h : ImKD K W H us kvs) : ImKD K W' H' us kvs := ⟨h.1, ImAll.tr s h.2⟩
end
theorem Rp.hd {Z : Zs} (ok : Ok K Z) {v : V} {h : Nat} {kvs : KD} (r : Rp K Z v (.o h)) (e : Z.st[h]? = some (.dK kvs)) : ∃ a us, v = .ref a ∧ Z.φ[h]? = some a ∧ Z.H a = some (.dK us) ∧ ImKD K Z.W Z.H us kvs := by
  obtain ⟨a, c, ev, e1, e2, e3⟩ := r
  rw [e] at e2
  cases e2
  obtain ⟨us, q, q1, q2⟩ := ok.ct h a _ e1 e
  exact ⟨a, us, ev, e1, q, q1, q2⟩
def dkAt (st : Sto) : Sl → Option KD
  | .o h => match st[h]? with
    | some (.dK kvs) => some kvs
    | _ => none
  | _ => none
theorem dkAt_ok {st : Sto} {s : Sl} {kvs : KD} (e : dkAt st s = some kvs) : ∃ h, s = .o h ∧ st[h]? = some (.dK kvs) := by
  unfold dkAt at e
  split at e
  · split at e
    · rename_i e2
      cases e
      exact ⟨_, rfl, e2⟩
    · cases e
  · cases e
def keyS (st : Sto) (s : Sl) : Option Key := (vw st s).bind keyOf
def oDGet (s t : Sl) (st : Sto) (Q : DK) : Prop := match dkAt st s, keyS st t with
  | some kvs, some k => ∃ d, valD kvs k = some d ∧ Q (.d d) st
  | _, _ => False
theorem keyS_ok {Z : Zs} {v : V} {s : Sl} {k : Key} (r : Rp K Z v s) (h : keyS Z.st s = some k) : v = kV k := by
  unfold keyS at h
  cases e : vw Z.st s with
  | none => rw [e] at h; cases h
  | some d => rw [e] at h; exact keyOf_ok r e h
theorem dget_ok (σ : L2.St) (H : Hp) (Q : VK) (h : upE K E (wOp oDGet ta tb) σ H Q) : tDGet (upE K E ta) (upE K E tb) σ H Q := by
  obtain ⟨Z, sl, Qd, Ed, h, ok, so, w, k, kx⟩ := h
  refine ⟨Z, sl, _, Ed, h, ok, so, w, fun Z1 x s l1 ok1 r1 w1 => ?_, kx⟩
  refine ⟨Z1, sl, _, Ed, rfl, ok1, so.tr l1, w1, fun Z2 y t l2 ok2 r2 w2 => ?_, kx.le l1⟩
  dsimp only [oDGet] at w2
  split at w2
  · rename_i kvs key e1 e2
    obtain ⟨hh, rfl, e1'⟩ := dkAt_ok e1
    obtain ⟨d, ed, q⟩ := w2
    obtain ⟨a, us, rfl, _, q1, q2⟩ := (r1.tr l2).hd ok2 e1'
    obtain ⟨v, ev, iv⟩ := q2.val ed
    refine ⟨a, v, rfl, .inl ⟨us, key, .inl q1, keyS_ok r2 e2, ev.symm⟩, ?_⟩
    exact k Z2 v (.d d) (l1.trans l2) ok2 iv q
  · exact w2.elim
theorem de_dget (hu : X.A.units + 1 < cLine) (ha : DEx X E a ta) (hb : DEx X E b tb) (hs : NoSl b := by intro _ _; rfl) : DEx X E (.Subscript a b pos) (wOp oDGet ta tb) := ⟨peI (pe_dget hu ha.run hb.run hs) dget_ok⟩
def wDPut (te to ti : DE) : DS := fun D sl st => te D.ex sl st fun v st => to D.ex sl st fun o st => ti D.ex sl st fun i st => match o, v, keyS st i with
  | .o h, .d y, some k => match st[h]? with
    | some (.dK kvs) => kvs.length < sizeLine ∧ D.nx sl (st.set h (.dK (putD kvs k y)))
    | _ => False
  | _, _, _ => False
theorem ds_dput {ob ix : Expr} {tpos : Pos} (hu : X.A.units + 1 < cLine) (he : DEx X E e te) (ho : DEx X E ob to) (hi : DEx X E ix ti)
    (hs : swapsWith e (some (.Subscript ob ix tpos)) pos.line X.env = pure false := by rfl) : DSt X E Z0 (.Assign [.Subscript ob ix tpos] e pos) (wDPut te to ti) :=
  ⟨psI (ps_dput hu ho.run hi.run he.run hs) fun D σ H ⟨Z, sl, Dd, h, l0, ok, so, w, en⟩ =>
    ⟨Z, sl, _, Dd.ex, h, ok, so, w, fun Z1 v s l1 ok1 r1 w1 => ⟨Z1, sl, _, Dd.ex, rfl, ok1, so.tr l1, w1, fun Z2 u t l2 ok2 r2 w2 => ⟨Z2, sl, _, Dd.ex, rfl, ok2, (so.tr l1).tr l2, w2, fun Z3 i y l3 ok3 r3 w3 => by
      simp only at w3
      split at w3
      · rename_i hh d k ek
        split at w3
        · rename_i kvs es
          obtain ⟨a, us, rfl, e1, q, r⟩ := (r2.tr l3).hd ok3 es
          have ei := keyS_ok r3 ek
          have rv : Z3.Im X.K v d := (r1.tr l2).tr l3
          refine ⟨a, _, rfl, .inl ⟨us, k, q, ei, by rw [r.len]; exact w3.1, rfl⟩, ?_⟩
          have l := ok3.lePut (o := .dK (putK us k v)) (c' := .dK (putD kvs k d)) e1 es trivial trivial
          have lz := ((l1.trans l2).trans l3).trans l
          have rr := (r.put (k := k) rv).tr l.stay
          exact en.nx (Z3.put hh a (.dK (putK us k v)) (.dK (putD kvs k d))) sl σ (l0.trans lz) lz.stay (ok3.put e1 es trivial trivial ⟨_, upd_same, rr.1, rr.2⟩) (so.tr lz) w3.2
        · exact w3.elim
      · exact w3.elim, (en.ex.le l0).le (l1.trans l2)⟩, (en.ex.le l0).le l1⟩, en.ex.le l0⟩⟩
abbrev DP := DX → Sls → Sto → (KD → Sto → Prop) → Prop
def wPNil : DP := fun _ _ st Q => Q [] st
def wPCons (tk tv : DE) (r : DP) : DP := fun Ed sl st Q => tk Ed sl st fun k st => tv Ed sl st fun v st => match k, v with
  | .d kd, .d d => match keyOf kd with
    | some key => r Ed sl st fun kvs st => Q ((key, d) :: kvs) st
    | none => False
  | _, _ => False
def upP (K : Frag) (E : WXs) (τ : DP) : L2.St → Hp → (List (V × V) → Hp → Prop) → Prop := fun σ H Q => ∃ (Z : Zs) (sl : Sls) (Qd : KD → Sto → Prop) (Ed : DX), Z.H = H ∧ Ok K Z ∧ SlOk K Z σ sl ∧ τ Ed sl Z.st Qd ∧ (∀ (Z' : Zs) (us : List (Key × V)) (kvs : KD), Le Z Z' → Ok K Z' → ImKD K Z'.W Z'.H us kvs → Qd kvs Z'.st → Q (us.map fun kv => (kV kv.1, kv.2)) Z'.H) ∧ KXOk K Z Ed E
structure DPs (X : Cx) (E : WXs) (pos : Pos) (keys : List (Option Expr)) (values : List Expr) (τ : DP) : Prop where
  run : ∃ trs, PPs X pos keys values trs ∧ ∀ σ H Q, upP X.K E τ σ H Q → tPairs trs σ H Q
theorem dp_nil : DPs X E pos [] [] wPNil := ⟨[], pps_nil, fun σ H Q ⟨Z, sl, Qd, Ed, h, ok, so, w, k, kx⟩ => by
  subst h
  exact k Z [] [] (.refl ok) ok .nil w⟩
theorem dp_cons {ke ve : Expr} {ks : List (Option Expr)} {vs : List Expr} {tk tv : DE} {r : DP} (hk : DEx X E ke tk) (hv : DEx X E ve tv) (hr : DPs X E pos ks vs r) : DPs X E pos (some ke :: ks) (ve :: vs) (wPCons tk tv r) := by
  obtain ⟨trs, h1, h2⟩ := hr.run
  refine ⟨_, pps_cons hk.run hv.run h1, fun σ H Q ⟨Z, sl, Qd, Ed, h, ok, so, w, k, kx⟩ => ?_⟩
  refine ⟨Z, sl, _, Ed, h, ok, so, w, fun Z1 x s l1 ok1 r1 w1 => ?_, kx⟩
  refine ⟨Z1, sl, _, Ed, rfl, ok1, so.tr l1, w1, fun Z2 y t l2 ok2 r2 w2 => ?_, kx.le l1⟩
  dsimp only at w2
  split at w2
  · rename_i kd d
    split at w2
    · rename_i key ek
      have ex := keyOf_ok (s := .d kd) (r1.tr l2) rfl ek
      refine h2 _ _ _ ⟨Z2, sl, _, Ed, rfl, ok2, (so.tr l1).tr l2, w2, fun Z3 us kvs l3 ok3 q w3 => ?_, (kx.le l1).le l2⟩
      have := k Z3 ((key, y) :: us) ((key, d) :: kvs) ((l1.trans l2).trans l3) ok3 (.cons (Rp.tr l3 (s := .d d) r2) q) w3
      rw [ex]
      exact this
    · exact w2.elim
  · exact w2.elim
def wDisp (r : DP) : DE := fun Ed sl st Q => r Ed sl (st ++ [.dK []]) fun kvs st2 => st2[st.length]? = some (.dK []) ∧ kvs.length ≤ 15 ∧ Q (.o st.length) (st2.set st.length (.dK (mergeD [] kvs)))
theorem de_disp {keys : List (Option Expr)} {values : List Expr} {r : DP} (h : DPs X E pos keys values r) (hall : (keys.all fun x => x.isSome) = true := by rfl) (hl : keys.length = values.length := by rfl) (h0 : keys ≠ [] := by exact fun z => by cases z) (h15 : keys.length ≤ 15 := by decide) : DEx X E (.Dict keys values pos) (wDisp r) := by
  obtain ⟨trs, h1, h2⟩ := h.run
  refine ⟨peI (pe_disp h1 hall hl h0 h15) fun σ H Q ⟨Z, sl, Qd, Ed, h, ok, so, w, k, kx⟩ p n => ?_⟩
  subst h
  have l := ok.leOwn (o := .dK []) (ct := .dK []) n
  have okN : Ok X.K (Z.own p (.dK []) (.dK [])) := ok.own n ⟨[], upd_same, rfl, .nil⟩
  refine h2 _ _ _ ⟨Z.own p (.dK []) (.dK []), sl, _, Ed, rfl, okN, so.tr l, w, fun Z1 us kvs l1 ok1 q w1 => ?_, kx.le l⟩
  obtain ⟨e1, e2, e3⟩ := w1
  obtain ⟨ψ, eψ, _⟩ := l1.pre
  have eφ : Z1.φ[Z.st.length]? = some p := by
    rw [eψ]
    show ((Z.φ ++ [p]) ++ ψ)[Z.st.length]? = some p
    rw [← ok.len, List.append_assoc, List.getElem?_append_right (Nat.le_refl _)]
    simp
  obtain ⟨us0, c1, c2, c3⟩ := ok1.ct _ _ _ eφ e1
  obtain rfl : us0 = [] := by cases us0 with | nil => rfl | cons _ _ => cases c2
  refine ⟨c1, us, rfl, by rw [q.len]; exact e2, ?_⟩
  have lp := ok1.lePut (o := .dK (mergeK [] us)) (c' := .dK (mergeD [] kvs)) eφ e1 trivial trivial
  have rr := (ImKD.merge q ImKD.nil).tr lp.stay
  refine k (Z1.put Z.st.length p (.dK (mergeK [] us)) (.dK (mergeD [] kvs))) (.ref p) (.o Z.st.length) ((l.trans l1).trans lp) (ok1.put eφ e1 trivial trivial ⟨_, upd_same, rr.1, rr.2⟩) ⟨p, .dK (mergeD [] kvs), rfl, eφ, ?_, trivial⟩ e3
  show (Z1.st.set _ _)[_]? = _
  rw [List.getElem?_set_self (List.getElem?_eq_some_iff.mp e1).1]
def wDNew : DE := fun Ed sl st Q => Q (.o st.length) (st ++ [.dK []])
def wDNil : DE := fun Ed sl st Q => Q (.d (.dict [])) st
end
end Pz
set_option maxRecDepth 100000
namespace Pz
open PySem PySem.Spec PyProof.Rows L2 TL
variable [PenC]
theorem wDPut_ap {te to ti : DE} {nx bk ct : Sls → Sto → Prop} {rt : DK} {ex : DX} {sl : Sls} {st : Sto} : wDPut te to ti ⟨nx, rt, ex, bk, ct⟩ sl st = (te ex sl st fun v st => to ex sl st fun o st => ti ex sl st fun i st => match o, v, keyS st i with
  | .o h, .d y, some k => match st[h]? with
    | some (.dK kvs) => kvs.length < sizeLine ∧ nx sl (st.set h (.dK (putD kvs k y)))
    | _ => False
  | _, _, _ => False) := rfl
theorem wPNil_ap {Ed : DX} {sl : Sls} {st : Sto} {Q : KD → Sto → Prop} : wPNil Ed sl st Q = Q [] st := rfl
theorem wPCons_ap {tk tv : DE} {r : DP} {Ed : DX} {sl : Sls} {st : Sto} {Q : KD → Sto → Prop} : wPCons tk tv r Ed sl st Q = (tk Ed sl st fun k st => tv Ed sl st fun v st => match k, v with
  | .d kd, .d d => match keyOf kd with
    | some key => r Ed sl st fun kvs st => Q ((key, d) :: kvs) st
    | none => False
  | _, _ => False) := rfl
theorem wDisp_ap {r : DP} {Ed : DX} {sl : Sls} {st : Sto} {Q : DK} : wDisp r Ed sl st Q = (r Ed sl (st ++ [.dK []]) fun kvs st2 => st2[st.length]? = some (.dK []) ∧ kvs.length ≤ 15 ∧ Q (.o st.length) (st2.set st.length (.dK (mergeD [] kvs)))) := rfl
theorem wDNew_ap {Ed : DX} {sl : Sls} {st : Sto} {Q : DK} : wDNew Ed sl st Q = Q (.o st.length) (st ++ [.dK []]) := rfl
theorem wDNil_ap {Ed : DX} {sl : Sls} {st : Sto} {Q : DK} : wDNil Ed sl st Q = Q (.d (.dict [])) st := rfl
theorem keyOf_str {z : Str} : keyOf (.str z) = some (.inr z) := rfl
theorem keyOf_int {i : Int} : keyOf (.int i) = some (.inl i) := rfl
theorem keyS_str {st : Sto} {z : Str} : keyS st (.d (.str z)) = some (.inr z) := rfl
theorem keyS_int {st : Sto} {i : Int} : keyS st (.d (.int i)) = some (.inl i) := rfl
theorem dkAt_o {st : Sto} {h : Nat} : dkAt st (.o h) = match st[h]? with
    | some (.dK kvs) => some kvs
    | _ => none := rfl
section
variable {a b c d : PyData}
theorem valE_cells : valD [(.inr "cells", a), (.inr "at", b), (.inr "left", c)] (.inr "cells") = some a := by with_unfolding_all rfl
theorem valE_at : valD [(.inr "cells", a), (.inr "at", b), (.inr "left", c)] (.inr "at") = some b := by with_unfolding_all rfl
theorem valE_left : valD [(.inr "cells", a), (.inr "at", b), (.inr "left", c)] (.inr "left") = some c := by with_unfolding_all rfl
theorem putE_at : putD [(.inr "cells", a), (.inr "at", b), (.inr "left", c)] (.inr "at") d = [(.inr "cells", a), (.inr "at", d), (.inr "left", c)] := by with_unfolding_all rfl
theorem putE_left : putD [(.inr "cells", a), (.inr "at", b), (.inr "left", c)] (.inr "left") d = [(.inr "cells", a), (.inr "at", b), (.inr "left", d)] := by with_unfolding_all rfl
theorem mergeE : mergeD [] [(.inr "cells", a), (.inr "at", b), (.inr "left", c)] = [(.inr "cells", a), (.inr "at", b), (.inr "left", c)] := by with_unfolding_all rfl
end
theorem ret1_dE {C : KD} {st : Sto} {Q : DK} : Ret 0 (.o 0) (.dK C :: st) Q = Q (.o 0) [.dK C] := by simp [Ret, Ct.live, Cl]
theorem cl_dk {n : Nat} {kvs : KD} : Cl n (.dK kvs) = True := rfl
theorem u1 {k : Nat} {A : Around} (hr : Room k A) : A.units + 1 < cLine := by have := hr.units; omega
theorem okT_int : okTy "int" = true := by decide +kernel
theorem is_int_none : isTyB "int" (tyName (.none)) = false := by with_unfolding_all rfl
theorem is_int_bool {b : Bool} : isTyB "int" (tyName (.bool b)) = true := by with_unfolding_all rfl
theorem is_int_int {i : Int} : isTyB "int" (tyName (.int i)) = true := by with_unfolding_all rfl
theorem is_int_str {z : Str} : isTyB "int" (tyName (.str z)) = false := by with_unfolding_all rfl
theorem is_int_list {ds : List PyData} : isTyB "int" (tyName (.list ds)) = false := by with_unfolding_all rfl
theorem is_int_tuple {ds : List PyData} : isTyB "int" (tyName (.tuple ds)) = false := by with_unfolding_all rfl
theorem is_int_dict {kvs : List (PyData × PyData)} : isTyB "int" (tyName (.dict kvs)) = false := by with_unfolding_all rfl
theorem okT_bool : okTy "bool" = true := by decide +kernel
theorem is_bool_none : isTyB "bool" (tyName (.none)) = false := by with_unfolding_all rfl
theorem is_bool_bool {b : Bool} : isTyB "bool" (tyName (.bool b)) = true := by with_unfolding_all rfl
theorem is_bool_int {i : Int} : isTyB "bool" (tyName (.int i)) = false := by with_unfolding_all rfl
theorem is_bool_str {z : Str} : isTyB "bool" (tyName (.str z)) = false := by with_unfolding_all rfl
theorem is_bool_list {ds : List PyData} : isTyB "bool" (tyName (.list ds)) = false := by with_unfolding_all rfl
theorem is_bool_tuple {ds : List PyData} : isTyB "bool" (tyName (.tuple ds)) = false := by with_unfolding_all rfl
theorem is_bool_dict {kvs : List (PyData × PyData)} : isTyB "bool" (tyName (.dict kvs)) = false := by with_unfolding_all rfl
theorem okT_str : okTy "str" = true := by decide +kernel
theorem is_str_none : isTyB "str" (tyName (.none)) = false := by with_unfolding_all rfl
theorem is_str_bool {b : Bool} : isTyB "str" (tyName (.bool b)) = false := by with_unfolding_all rfl
theorem is_str_int {i : Int} : isTyB "str" (tyName (.int i)) = false := by with_unfolding_all rfl
theorem is_str_str {z : Str} : isTyB "str" (tyName (.str z)) = true := by with_unfolding_all rfl
theorem is_str_list {ds : List PyData} : isTyB "str" (tyName (.list ds)) = false := by with_unfolding_all rfl
theorem is_str_tuple {ds : List PyData} : isTyB "str" (tyName (.tuple ds)) = false := by with_unfolding_all rfl
theorem is_str_dict {kvs : List (PyData × PyData)} : isTyB "str" (tyName (.dict kvs)) = false := by with_unfolding_all rfl
theorem okT_tuple : okTy "tuple" = true := by decide +kernel
theorem is_tuple_none : isTyB "tuple" (tyName (.none)) = false := by with_unfolding_all rfl
theorem is_tuple_bool {b : Bool} : isTyB "tuple" (tyName (.bool b)) = false := by with_unfolding_all rfl
theorem is_tuple_int {i : Int} : isTyB "tuple" (tyName (.int i)) = false := by with_unfolding_all rfl
theorem is_tuple_str {z : Str} : isTyB "tuple" (tyName (.str z)) = false := by with_unfolding_all rfl
theorem is_tuple_list {ds : List PyData} : isTyB "tuple" (tyName (.list ds)) = false := by with_unfolding_all rfl
theorem is_tuple_tuple {ds : List PyData} : isTyB "tuple" (tyName (.tuple ds)) = true := by with_unfolding_all rfl
theorem is_tuple_dict {kvs : List (PyData × PyData)} : isTyB "tuple" (tyName (.dict kvs)) = false := by with_unfolding_all rfl
theorem okT_list : okTy "list" = true := by decide +kernel
theorem is_list_none : isTyB "list" (tyName (.none)) = false := by with_unfolding_all rfl
theorem is_list_bool {b : Bool} : isTyB "list" (tyName (.bool b)) = false := by with_unfolding_all rfl
theorem is_list_int {i : Int} : isTyB "list" (tyName (.int i)) = false := by with_unfolding_all rfl
theorem is_list_str {z : Str} : isTyB "list" (tyName (.str z)) = false := by with_unfolding_all rfl
theorem is_list_list {ds : List PyData} : isTyB "list" (tyName (.list ds)) = true := by with_unfolding_all rfl
theorem is_list_tuple {ds : List PyData} : isTyB "list" (tyName (.tuple ds)) = false := by with_unfolding_all rfl
theorem is_list_dict {kvs : List (PyData × PyData)} : isTyB "list" (tyName (.dict kvs)) = false := by with_unfolding_all rfl
theorem okT_dict : okTy "dict" = true := by decide +kernel
theorem is_dict_none : isTyB "dict" (tyName (.none)) = false := by with_unfolding_all rfl
theorem is_dict_bool {b : Bool} : isTyB "dict" (tyName (.bool b)) = false := by with_unfolding_all rfl
theorem is_dict_int {i : Int} : isTyB "dict" (tyName (.int i)) = false := by with_unfolding_all rfl
theorem is_dict_str {z : Str} : isTyB "dict" (tyName (.str z)) = false := by with_unfolding_all rfl
theorem is_dict_list {ds : List PyData} : isTyB "dict" (tyName (.list ds)) = false := by with_unfolding_all rfl
theorem is_dict_tuple {ds : List PyData} : isTyB "dict" (tyName (.tuple ds)) = false := by with_unfolding_all rfl
theorem is_dict_dict {kvs : List (PyData × PyData)} : isTyB "dict" (tyName (.dict kvs)) = true := by with_unfolding_all rfl
end Pz
set_option maxRecDepth 100000
namespace Pz
open PySem PySem.Spec PyProof.Rows L2 TL
variable [PenC]
section
variable {K : Frag}
def flatD : PyData → Bool
  | .none => true
  | .bool _ => true
  | .int _ => true
  | .str _ => true
  | _ => false
theorem im_flat {W : Addr → Prop} {H : Hp} {v : V} {d : PyData} (q : Im K W H v d) (h : flatD d = true) : flatV v = true := by
  cases q <;> first | rfl | cases h
theorem im_eq {W : Addr → Prop} {H : Hp} {v u : V} {d e : PyData} (q : Im K W H v d) (r : Im K W H u e) (h1 : flatD d = true) (h2 : flatD e = true) : eqV v u = PyData.eqv d e := by
  cases q <;> first | (cases h1; done) | (cases r <;> first | (cases h2; done) | simp [eqV, PyData.eqv])
theorem im_flats {W : Addr → Prop} {H : Hp} : ∀ {vs : List V} {ds : List PyData}, ImAll K W H vs ds → ds.all flatD = true → vs.all flatV = true
  | _, _, .nil, _ => rfl
  | _, _, .cons q r, h => by
    rw [List.all_cons, Bool.and_eq_true] at h
    rw [List.all_cons, im_flat q h.1, im_flats r h.2]; rfl
theorem im_in {W : Addr → Prop} {H : Hp} {v : V} {d : PyData} (q : Im K W H v d) (h1 : flatD d = true) : ∀ {vs : List V} {ds : List PyData}, ImAll K W H vs ds → ds.all flatD = true → inV v vs = ds.any fun z => PyData.eqv z d
  | _, _, .nil, _ => rfl
  | _, _, .cons q' r, h => by
    rw [List.all_cons, Bool.and_eq_true] at h
    have := im_in q h1 r h.2
    unfold inV at *
    rw [List.any_cons, List.any_cons, this, im_eq q' q h.1 h1]
def oInX (neg : Bool) (x y : Sl) (st : Sto) (Q : DK) : Prop := match vw st x, vw st y with
  | some d, some (.list ds) => SeqAt.shaped d = true ∧ SeqAt.shaped (.list ds) = true ∧ Q (.d (.bool (if neg then !ds.any fun z => PyData.eqv z d else ds.any fun z => PyData.eqv z d))) st
  | some d, some (.tuple ds) => flatD d = true ∧ ds.all flatD = true ∧ Q (.d (.bool (if neg then !ds.any fun z => PyData.eqv z d else ds.any fun z => PyData.eqv z d))) st
  | some (.str z), some (.str y) => ∃ c, z = ⟨#[c]⟩ ∧ Q (.d (.bool (if neg then !decide (c ∈ tl y) else decide (c ∈ tl y)))) st
  | _, _ => False
def rInX (K : Frag) : R2 := fun x y H Q => rInD K x y H Q ∨ rIn K false x y H Q ∨ ∃ (c : Nat) (z : Str), x = .str ⟨#[c]⟩ ∧ y = .str z ∧ Q (.bl (decide (c ∈ z.cps.toList))) H
def rNinX (K : Frag) : R2 := fun x y H Q => rNotInD K x y H Q ∨ rIn K true x y H Q ∨ ∃ (c : Nat) (z : Str), x = .str ⟨#[c]⟩ ∧ y = .str z ∧ Q (.bl (!decide (c ∈ z.cps.toList))) H
theorem op_inX {X : Cx} (hu : X.A.units + 65 < cLine) : OpR X (compareOp .In) (rInX X.K) := (op_inD hu).or (op_in_seq.or op_in_sign)
theorem op_ninX {X : Cx} (hu : X.A.units + 65 < cLine) : OpR X (compareOp .NotIn) (rNinX X.K) := (op_notInD hu).or (op_notIn_seq.or op_notIn_sign)
theorem d2_inX : D2 K (rInX K) (oInX false) := by
  intro Z v u s t Qd Q ok r1 r2 w k
  unfold oInX at w
  split at w
  · rename_i a b e1 e2
    exact .inl ⟨a, b, r1.dp ok e1 (shaped_dict w.1), r2.dp ok e2 (shaped_dict w.2.1), w.1, w.2.1, k.now ok (.bl _) w.2.2⟩
  · rename_i d ds e1 e2
    obtain ⟨p, xs, rfl, h1, q1⟩ := r2.tuple e2
    have q0 := r1.data e1 fun ds h => by rw [h] at w; exact absurd w.1 (by simp [flatD])
    refine .inr (.inl ⟨p, xs, rfl, .inr h1.sq, im_flat q0 w.1, im_flats q1 w.2.1, ?_⟩)
    rw [im_in q0 w.1 q1 w.2.1]
    exact k.now ok (.bl _) w.2.2
  · rename_i z y e1 e2
    obtain ⟨c, rfl, q⟩ := w
    exact .inr (.inr ⟨c, y, r1.str e1, r2.str e2, k.now ok (.bl _) q⟩)
  · exact w.elim
theorem d2_ninX : D2 K (rNinX K) (oInX true) := by
  intro Z v u s t Qd Q ok r1 r2 w k
  unfold oInX at w
  split at w
  · rename_i a b e1 e2
    exact .inl ⟨a, b, r1.dp ok e1 (shaped_dict w.1), r2.dp ok e2 (shaped_dict w.2.1), w.1, w.2.1, k.now ok (.bl _) w.2.2⟩
  · rename_i d ds e1 e2
    obtain ⟨p, xs, rfl, h1, q1⟩ := r2.tuple e2
    have q0 := r1.data e1 fun ds h => by rw [h] at w; exact absurd w.1 (by simp [flatD])
    refine .inr (.inl ⟨p, xs, rfl, .inr h1.sq, im_flat q0 w.1, im_flats q1 w.2.1, ?_⟩)
    rw [im_in q0 w.1 q1 w.2.1]
    exact k.now ok (.bl _) w.2.2
  · rename_i z y e1 e2
    obtain ⟨c, rfl, q⟩ := w
    exact .inr (.inr ⟨c, y, r1.str e1, r2.str e2, k.now ok (.bl _) q⟩)
  · exact w.elim
def oIsB (x y : Sl) (st : Sto) (Q : DK) : Prop := match vw st x, vw st y with
  | some (.bool a), some (.bool b) => Q (.d (.bool (decide (a = b)))) st
  | _, _ => False
def oNotB (x y : Sl) (st : Sto) (Q : DK) : Prop := match vw st x, vw st y with
  | some (.bool a), some (.bool b) => Q (.d (.bool (!decide (a = b)))) st
  | _, _ => False
def intFrom (d : PyData) (m : Int) : Bool := match d with
  | .int i => decide (m ≤ i)
  | _ => false
def intBetw (d : PyData) (m g : Int) : Bool := match d with
  | .int i => decide (m ≤ i) && decide (i ≤ g)
  | _ => false
def isWord (d : PyData) : Bool := match d with
  | .str z => decide (Str.ofString "expand" = z) || decide (Str.ofString "collapse" = z)
  | _ => false
def isOp (d : PyData) : Bool := match d with
  | .tuple [w, s] => isWord w && intBetw s 1 1000000000
  | _ => false
end
end Pz
set_option maxRecDepth 100000
namespace Pz
open PySem PySem.Spec PyProof.Rows L2 TL
variable [PenC]
section
variable {prog : Program} {w : World} {A : Around} {E : Value → Shared → Prop} {s : Shared}
set_option maxHeartbeats 1000000 in
theorem meets_enum1 {v : Value} {o : Obj} {G : Heap → Prop} (B : Begins v o G) : Meets (Builtin.«enumerate.__new__» ⟨[.type "enumerate", v], []⟩) (fun _ R s => G s.heap ∧ R (.ok (.ret (.ref (s.heap.push o).objs.size))) { s with heap := (s.heap.push o).push { cls := .type "enumerate", data := .fields #[.none, .bool false, .ref s.heap.objs.size, rawInt 0, .none, .none] } }) := .of_wp fun prog w A R s hs => by
    obtain ⟨hp, gg, dd, kk, oo⟩ := s
    obtain ⟨st, hs⟩ := hs
    have sb := sub_enumerate
    have qi : ∀ {A' : Around} {E Q : Value → Shared → Prop}, Q (.ref hp.objs.size) ⟨hp.push o, gg, dd, kk, oo⟩ → wpAny (model prog w) A' (pyIter v) Q E ⟨hp, gg, dd, kk, oo⟩ := fun q => B.iter prog w _ _ ⟨hp, gg, dd, kk, oo⟩ _ st q
    wp_walk using qi
    refine wpAny_stack_any fun st2 => wpAny_pure ?_
    split
    · rename_i c _ _ _ _ _
      cases (c == Value.type "enumerate") <;> (wp_walk using qi; exact ⟨_, rfl, hs⟩)
    · wp_walk using qi; exact ⟨_, rfl, hs⟩
end
def IteT (K : Frag) (a : Addr) : It :=
  ⟨fun i H => ∃ (xs : List V) (x : V), SqT K H a xs ∧ xs[i]? = some x,
   fun i H v H' => ∃ T x, v = .ref T ∧ H T = none ∧ H' = upd H T (.tup [.int (i : Nat), x]) ∧ ∀ xs, SqT K H a xs → xs[i]? = some x,
   fun i H => ∃ xs : List V, SqT K H a xs ∧ xs.length ≤ i⟩
def iEnumA (K : Frag) (ta : TA) : TI := fun σ H R => ta σ H fun vs H1 => ∃ a xs, vs = [.ref a] ∧ ((SqL K H1 a xs ∧ R (Ite K a) H1) ∨ (SqT K H1 a xs ∧ R (IteT K a) H1))
def wEnumX (te : DA) : DI := fun Ed sl st Q => te Ed sl st fun ss st => match ss with
  | [.d (.tuple ds)] => Q (enumD 0 ds) st
  | [.d (.list ds)] => Q (enumD 0 ds) st
  | _ => False
section
variable {X : Cx} {E : WXs} {Z0 : Zs} {e : Expr} {t : DA} {elts : List Expr} {kk : Nat} {pos p tpos : Pos}
theorem wEnumX_ap {te : DA} {Ed : DX} {sl : Sls} {st : Sto} {Q : List PyData → Sto → Prop} : wEnumX te Ed sl st Q = (te Ed sl st fun ss st => match ss with
  | [.d (.tuple ds)] => Q (enumD 0 ds) st
  | [.d (.list ds)] => Q (enumD 0 ds) st
  | _ => False) := rfl
end
def wRevX (te : DE) : DE := fun Ed sl st Q => te Ed sl st fun s st => match vw st s with
  | some (.list ds) => Q (.d (.list ds.reverse)) st
  | some (.tuple ds) => Q (.d (.tuple ds.reverse)) st
  | _ => False
end Pz
set_option maxRecDepth 100000
namespace Pz
open PySem PySem.Spec PyProof.Rows L2 TL
variable [PenC]
structure FAtK (K : Frag) (mg : Str → Option Value) (x : Str) (st : Stmt) (kws : List (Str × V)) (f : Addr) (fd : FuncData) : Prop where
  F : Fun K x x st f fd
  g : mg x = some (.ref f)
  D : FunD K x x (defArgs st) (defBody st) (defScope st) [] kws f fd
structure KwE (K : Frag) (fd : FuncData) (ps : List Str) (n : Nat) (ks : List Str) (gS : List Sl → List Sl → List Sl) : Prop where
  ex : ∃ (g : List Value → List Value → List Value) (gV : List V → List V → List V),
    (∀ (s : Shared) (us ws : List Value), K.In s.heap → us.length = n → ws.length = ks.length → BindsTo s fd ⟨us, ks.zip ws⟩ (ps.zip (g us ws))) ∧
    (∀ {vs : List V} {us : List Value} {zs : List V} {ws : List Value}, vs.length = n → zs.length = ks.length → Vals vs us → Vals zs ws → Vals (gV vs zs) (g us ws)) ∧
    (∀ {Z : Zs} {vs zs : List V} {ss us : List Sl}, ss.length = n → us.length = ks.length → RpAll K Z vs ss → RpAll K Z zs us → RpAll K Z (gV vs zs) (gS ss us))
section
variable {K : Frag} {x : Str} {st : Stmt} {kws : List (Str × V)} {f : Addr} {fd : FuncData} {ps : List Str} {mg : Str → Option Value}
theorem FAtK.kwe (F : FAtK K mg x st kws f fd) (n : Nat) (ks : List Str) (ms : List (Str × V)) (msS : List Sl) (g : {α : Type} → List α → List α → List α → List α) (hk : kws ≠ []) (hms : ∀ q ∈ ms, q ∈ kws)
    (hrel : ∀ {vs mz zs : List V} {us mv ws : List Value}, vs.length = n → mz.length = ms.length → zs.length = ks.length → Vals vs us → Vals mz mv → Vals zs ws → Vals (g vs mz zs) (g us mv ws))
    (hrp : ∀ {Z : Zs} {vs zs : List V} {ss us : List Sl}, ss.length = n → us.length = ks.length → RpAll K Z vs ss → RpAll K Z zs us → RpAll K Z (g vs (ms.map (·.2)) zs) (g ss msS us))
    (h : ∀ (D : Addr) (doc pm : Value) (an : Option Addr) (cdv ct : Value) (us mv ws : List Value), us.length = n → mv.length = ms.length → ws.length = ks.length →
      KwChain D ((ms.map (·.1)).zip mv) (bindArgs (PySem.W.fnOf x x (defArgs st) (defBody st) (defScope st) .none (.ref D) doc pm an cdv ct) ⟨us, ks.zip ws⟩) (ps.zip (g us mv ws))) :
    KwE K fd ps n ks (fun ss us => g ss msS us) := by
  obtain ⟨oc, od, dV, kV, doc, pm, an, cdv, ct, osl, rfl, lk, hcd, hD, hK⟩ := F.D.ex
  rcases hD with ⟨_, rfl⟩ | ⟨e, _⟩
  · rcases hK with e | ⟨D, rfl, hq⟩
    · exact absurd e hk
    · obtain ⟨mv, hl, rk, hks⟩ := kwd_vals (ms := ms) fun q hm => hq q (hms q hm)
      exact ⟨fun us ws => g us mv ws, fun vs zs => g vs (ms.map (·.2)) zs, fun s us ws X l1 l2 => BindsTo.of_looks fun M => KwChain.looks X hks (h D doc pm an cdv ct us mv ws l1 hl l2), fun l1 l2 r1 r2 => hrel l1 (List.length_map _) l2 r1 rk r2, fun l1 l2 r1 r2 => hrp l1 l2 r1 r2⟩
  · exact absurd rfl e
end
section
variable {X : Cx} {E : WXs} {k n m : Nat} {fa : Addr} {fd : FuncData} {ps ks : List Str} {f : FD} {x : Str} {p pos : Pos} {e : Expr} {es : List Expr} {t tk : DA} {kws : List Keyword} {gS : List Sl → List Sl → List Sl}
def wCallE (n m : Nat) (f : FD) (g : List Sl → List Sl → List Sl) (t tk : DA) : DE := fun Ed sl st Q => t Ed sl st fun ss st => tk Ed sl st fun zs st => ss.length = n ∧ zs.length = m ∧ f (g ss zs) fun d => Q (.d d) st
theorem wCallE_ap {g : List Sl → List Sl → List Sl} {Ed : DX} {sl : Sls} {st : Sto} {Q : DK} : wCallE n m f g t tk Ed sl st Q = (t Ed sl st fun ss st => tk Ed sl st fun zs st => ss.length = n ∧ zs.length = m ∧ f (g ss zs) fun d => Q (.d d) st) := rfl
end
end Pz
set_option maxRecDepth 100000
namespace Pz
open PySem PySem.Spec PyProof.Rows L2 TL
variable [PenC]
section
variable {X : Cx} {E : WXs} {Z0 : Zs} {a b c e : Expr} {es rest : List Expr} {ta tb tc te : DE} {t : DA} {pos p p2 : Pos} {x : Str} {K : Frag} {lo hi : Option Expr} {tlo thi : DO}
def wOrX (ta tb : DE) : DE := fun Ed sl st Q => ta Ed sl st fun s st => match truD st s with
  | some b => if b = true then Q s st else tb Ed sl st Q
  | none => False
def wAndX (ta tb : DE) : DE := fun Ed sl st Q => ta Ed sl st fun s st => match truD st s with
  | some b => if b = true then tb Ed sl st Q else Q s st
  | none => False
def oSlO (s : Sl) (lo hi : Option Int) (st : Sto) (Q : DK) : Prop := match vw st s with
    | some (.list ds) => Q (.o st.length) (st ++ [.lst (cutD ds lo hi)])
    | _ => False
def wSlO (te : DE) (tl th : DO) : DE := fun Ed sl st Q => te Ed sl st fun s st => tl Ed sl st fun lo st => th Ed sl st fun hi st => oSlO s lo hi st Q
theorem wSlO_ap {tl th : DO} {Ed : DX} {sl : Sls} {st : Sto} {Q : DK} : wSlO te tl th Ed sl st Q = (te Ed sl st fun s st => tl Ed sl st fun lo st => th Ed sl st fun hi st => oSlO s lo hi st Q) := rfl
theorem cut_mem {α : Type} {xs : List α} {lo hi : Option Int} {d : α} (h : d ∈ cutD xs lo hi) : d ∈ xs := List.mem_of_mem_drop (List.mem_of_mem_take h)
theorem cut_len {α : Type} {xs : List α} {lo hi : Option Int} : (cutD xs lo hi).length ≤ xs.length := by
  unfold cutD
  rw [List.length_take, List.length_drop]
  omega
theorem Ints.cut {P : Int → Prop} {ds : List PyData} {lo hi : Option Int} (h : Ints P ds) : Ints P (cutD ds lo hi) := fun d m => h d (cut_mem m)
theorem sIx_pos {n d : Nat} {j : Int} (h : 0 ≤ j) : HT.sIx n d (some j) = min j.toNat n := by
  unfold HT.sIx
  dsimp only
  rw [if_neg (by omega)]
theorem cut_take {α : Type} {xs : List α} {j : Int} (h : 0 ≤ j) : cutD xs none (some j) = xs.take j.toNat := by
  unfold cutD
  rw [sIx_pos h, HT.sIx_none, List.drop_zero, Nat.sub_zero]
  rcases Nat.le_total xs.length j.toNat with c | c
  · rw [List.take_of_length_le (by omega), List.take_of_length_le c]
  · congr 1; omega
theorem cut_drop {α : Type} {xs : List α} {j : Int} (h : 0 ≤ j) : cutD xs (some j) none = xs.drop j.toNat := by
  unfold cutD
  rw [sIx_pos h, HT.sIx_none, List.take_of_length_le (by rw [List.length_drop]; omega)]
  rcases Nat.le_total xs.length j.toNat with c | c
  · rw [List.drop_of_length_le (by omega), List.drop_of_length_le c]
  · congr 1; omega
theorem cut_hi {α : Type} {xs : List α} {j : Int} (h : 0 ≤ j) : (cutD xs none (some j)).length = min xs.length j.toNat := by
  rw [cut_take h, List.length_take]; omega
end
end Pz
set_option maxRecDepth 100000
namespace Pz
open PySem PySem.Spec PyProof.Rows L2 TL
variable [PenC]
def IteS (x : Str) : It :=
  ⟨fun i _ => i < x.cps.size,
   fun i H v H' => ∃ T c, v = .ref T ∧ H T = none ∧ H' = upd H T (.tup [.int (i : Nat), .str ⟨#[c]⟩]) ∧ x.cps[i]? = some c,
   fun i _ => x.cps.size ≤ i⟩
def iEnumB (K : Frag) (ta : TA) : TI := fun σ H R => ta σ H fun vs H1 => (∃ a xs, vs = [.ref a] ∧ ((SqL K H1 a xs ∧ R (Ite K a) H1) ∨ (SqT K H1 a xs ∧ R (IteT K a) H1))) ∨ ∃ x, vs = [.str x] ∧ R (IteS x) H1
def wEnumY (te : DA) : DI := fun Ed sl st Q => te Ed sl st fun ss st => match ss with
  | [.d (.tuple ds)] => Q (enumD 0 ds) st
  | [.d (.list ds)] => Q (enumD 0 ds) st
  | [.d (.str z)] => Q (enumD 0 (Pz.signs z)) st
  | _ => False
section
variable {X : Cx} {E : WXs} {Z0 : Zs} {e : Expr} {t : DA} {elts : List Expr} {kk : Nat} {pos p tpos : Pos} {K : Frag}
theorem wEnumY_ap {te : DA} {Ed : DX} {sl : Sls} {st : Sto} {Q : List PyData → Sto → Prop} : wEnumY te Ed sl st Q = (te Ed sl st fun ss st => match ss with
  | [.d (.tuple ds)] => Q (enumD 0 ds) st
  | [.d (.list ds)] => Q (enumD 0 ds) st
  | [.d (.str z)] => Q (enumD 0 (Pz.signs z)) st
  | _ => False) := rfl
def fDivmod : FA := fun ss st Q => match ss with
  | [s, t] => match vw st s, vw st t with
    | some (.int i), some (.int j) => CDivP i j ∧ Q (.d (.tuple [.int (i / j), .int (i % j)])) st
    | _, _ => False
  | _ => False
theorem cd_divmod : CallD K (fun xs H Q => ∃ i j, xs = [.int i, .int j] ∧ CDivP i j ∧ ∀ p, H p = none → Q (.ref p) (upd H p (.tup [.int (i / j), .int (i % j)]))) fDivmod := by
  intro Z vs ss Qd Q ok ra w k
  unfold fDivmod at w
  split at w
  · obtain ⟨v, u, rfl, r1, r2⟩ := rp2 ra
    split at w
    · rename_i i j e1 e2
      rw [r1.int e1, r2.int e2]
      exact ⟨i, j, rfl, w.1, k.newT ok (.cons (.int _) (.cons (.int _) .nil)) w.2⟩
    · exact w.elim
  · exact w.elim
def fStr : FA := fun ss st Q => match ss with
  | [s] => match vw st s with
    | some (.int i) => i.natAbs < 10 ^ 100 ∧ Q (.d (.str (PyData.shown (.int i)))) st
    | _ => False
  | _ => False
def rStr : List V → Hp → VK → Prop := fun xs H Q => ∃ i, xs = [.int i] ∧ i.natAbs.log2 < 1920 ∧ Q (.str (toString i)) H
theorem cdp {i j : Int} (h0 : 0 < j) (h1 : 0 ≤ i) (h2 : i < 2 ^ 64) : CDivP i j := divp_ok h0 (by
  unfold Builtin.Int.intBits
  split
  · omega
  · have : i.natAbs < 2 ^ 64 := by omega
    have h3 : i.natAbs ≠ 0 := by
      rename_i hh
      intro z
      have : i = 0 := by omega
      subst this
      exact hh rfl
    have := (Nat.log2_lt h3).mpr this
    omega)
end
end Pz
set_option maxRecDepth 100000
namespace Pz
open PySem PySem.Spec PyProof.Rows L2 TL
variable [PenC]
section
variable {X : Cx} {E : WXs} {o e f : Expr} {td ty tx : DE} {apos cpos : Pos} {K : Frag}
def wDGet2 (td ty tx : DE) : DE := fun Ed sl st Q => td Ed sl st fun s st => (dkAt st s).isSome = true ∧ ty Ed sl st fun t st => tx Ed sl st fun u st => match dkAt st s, keyS st t with
  | some kvs, some k => match valD kvs k with
    | some d => Q (.d d) st
    | none => Q u st
  | _, _ => False
theorem wDGet2_ap {Ed : DX} {sl : Sls} {st : Sto} {Q : DK} : wDGet2 td ty tx Ed sl st Q = (td Ed sl st fun s st => (dkAt st s).isSome = true ∧ ty Ed sl st fun t st => tx Ed sl st fun u st => match dkAt st s, keyS st t with
  | some kvs, some k => match valD kvs k with
    | some d => Q (.d d) st
    | none => Q u st
  | _, _ => False) := rfl
end
end Pz
set_option maxRecDepth 100000
namespace Pz
open PySem PySem.Spec PyProof.Rows L2 TL
variable [PenC]
def rMaxDf (K : Frag) : List V → List V → Hp → VK → Prop := fun vs zs H Q => ∃ (a : Addr) (ns : List Int) (d : V), vs = [V.ref a] ∧ zs = [d] ∧ (SqL K H a (ns.map V.int) ∨ SqT K H a (ns.map V.int)) ∧ if ns = [] then Q d H else Q (.int (lmax ns)) H
section
variable {X : Cx} {E : WXs} {e f : Expr} {te tx : DE} {x : Str} {p pos kp : Pos} {K : Frag}
def wMaxDf (te tx : DE) : DE := fun Ed sl st Q => te Ed sl st fun s st => tx Ed sl st fun u st => ∃ ns, vwJ st s = some ns ∧ if ns = [] then Q u st else Q (.d (.int (lmax ns))) st
theorem wMaxDf_ap {Ed : DX} {sl : Sls} {st : Sto} {Q : DK} : wMaxDf te tx Ed sl st Q = (te Ed sl st fun s st => tx Ed sl st fun u st => ∃ ns, vwJ st s = some ns ∧ if ns = [] then Q u st else Q (.d (.int (lmax ns))) st) := rfl
end
end Pz
set_option maxRecDepth 100000
namespace Pz
open PySem PySem.Spec PyProof.Rows L2 TL
variable [PenC]
section
variable {X : Cx} {E : WXs} {Z0 : Zs} {e : Expr} {es : List Expr} {t : DA} {pos p : Pos} {x : Str} {f : FD} {n k m : Nat} {N : List Str} {τ : DS}
def spFO (f : FD) : DSp := fun ss cs Q Ed => cs = [] ∧ f ss fun d => match d with
  | .list ds => Q (.o 0) [.lst ds]
  | _ => False
def aFO (f : FD) (ss : List Sl) (st : Sto) (Q : DK) : Prop := f ss fun d => match d with
  | .list ds => Q (.o st.length) (st ++ [.lst ds])
  | _ => False
def wCallFO (f : FD) (t : DA) : DE := fun Ed sl st Q => t Ed sl st fun ss st => aFO f ss st Q
theorem wCallFO_ap {f : FD} {t : DA} {Ed : DX} {sl : Sls} {st : Sto} {Q : DK} : wCallFO f t Ed sl st Q = (t Ed sl st fun ss st => aFO f ss st Q) := rfl
variable {fa : Addr} {fd : FuncData} {ps : List Str}
end
mutual
theorem okR_lay : ∀ {d : PyData}, okR d = true → d.canLay0 = true
  | .none, _ => by rw [PyData.canLay0]
  | .bool _, _ => by rw [PyData.canLay0]
  | .int _, _ => by rw [PyData.canLay0]
  | .str _, h => by rw [PyData.canLay0]; simpa [okR] using h
  | .list _, h => by rw [PyData.canLay0]; exact okR_layAll (by simpa [okR] using h)
  | .tuple _, h => by rw [PyData.canLay0]; exact okR_layAll (by simpa [okR] using h)
  | .dict _, h => by simp [okR] at h
theorem okR_layAll : ∀ {ds : List PyData}, okRAll ds = true → PyData.canLayAll0 ds = true
  | [], _ => by rw [PyData.canLayAll0]
  | d :: ds, h => by
    simp only [okRAll, Bool.and_eq_true] at h
    rw [PyData.canLayAll0, okR_lay h.1, okR_layAll h.2]
    rfl
end
mutual
def plainD : PyData → Bool
  | .none => true
  | .bool _ => false
  | .int _ => true
  | .str _ => true
  | .list xs => plainAll xs
  | .tuple xs => plainAll xs
  | .dict _ => false
def plainAll : List PyData → Bool
  | [] => true
  | d :: ds => plainD d && plainAll ds
end
mutual
theorem eqv_iff : ∀ {d e : PyData}, plainD d = true → plainD e = true → (PyData.eqv d e = true ↔ d = e)
  | .none, e, _, h => by cases e <;> simp_all [PyData.eqv, plainD]
  | .bool _, e, h, _ => by simp [plainD] at h
  | .int _, e, _, h => by cases e <;> simp_all [PyData.eqv, plainD]
  | .str _, e, _, h => by cases e <;> simp_all [PyData.eqv, plainD]
  | .list xs, e, h1, h2 => by
    cases e with
    | list ys => rw [PyData.eqv, PyData.list.injEq]; exact eqv_iffAll (by simpa [plainD] using h1) (by simpa [plainD] using h2)
    | _ => simp [PyData.eqv]
  | .tuple xs, e, h1, h2 => by
    cases e with
    | tuple ys => rw [PyData.eqv, PyData.tuple.injEq]; exact eqv_iffAll (by simpa [plainD] using h1) (by simpa [plainD] using h2)
    | _ => simp [PyData.eqv]
  | .dict _, e, h, _ => by simp [plainD] at h
theorem eqv_iffAll : ∀ {ds es : List PyData}, plainAll ds = true → plainAll es = true → (PyData.eqvAll ds es = true ↔ ds = es)
  | [], [], _, _ => by simp [PyData.eqvAll]
  | [], e :: es, _, _ => by simp [PyData.eqvAll]
  | d :: ds, [], _, _ => by simp [PyData.eqvAll]
  | d :: ds, e :: es, h1, h2 => by
    simp only [plainAll, Bool.and_eq_true] at h1 h2
    rw [PyData.eqvAll, Bool.and_eq_true, eqv_iff h1.1 h2.1, eqv_iffAll h1.2 h2.2, List.cons.injEq]
end
theorem eqv_same {d : PyData} (h : plainD d = true) : PyData.eqv d d = true := (eqv_iff h h).mpr rfl
theorem plain_all : ∀ {ds : List PyData}, (∀ d ∈ ds, plainD d = true) → plainAll ds = true
  | [], _ => rfl
  | d :: ds, h => by rw [plainAll, h d List.mem_cons_self, plain_all fun e m => h e (List.mem_cons_of_mem _ m)]; rfl
end Pz
set_option maxRecDepth 100000
namespace HT
open PySem PySem.Spec PyProof.Rows L2
section
variable {prog : Program} {w : World} {A : Around} {E : Value → Shared → Prop} {s : Shared}
theorem sliceApplied_rev {sl : Addr} {vl vu vs : Value} {n : Nat} {Q : Int × Int × Nat → Shared → Prop} (hs : s.heap.IsSliceOf sl vl vu vs) (pl : IsPart vl none) (pu : IsPart vu none) (ps : IsPart vs (some (-1)))
    (h : Q ((n : Int) - 1, -1, n) s) : wpAny (model prog w) A (Builtin.Slice.sliceApplied (.ref sl) (pure (n : Int))) Q E s := by
  obtain ⟨os, hos, hcs, hds⟩ := id hs
  unfold Builtin.Slice.sliceApplied Builtin.Slice.sliceFields
  refine wpAny_bind (wpAny_bind (wpAny_field hos hds (x := vl) rfl (wpAny_bind (wpAny_field hos hds (x := vu) rfl (wpAny_bind (wpAny_field hos hds (x := vs) rfl (wpAny_pure ?_)))))))
  refine wpAny_bind (slicePart_ ps ?_)
  show wpAny _ _ (if ((-1 : Int) == 0) = true then _ else _) _ _ s
  rw [if_neg (by decide)]
  refine wpAny_bind (slicePart_ pl (wpAny_bind (slicePart_ pu (wpAny_bind (wpAny_pure ?_)))))
  have e1 : Builtin.Slice.sliceAdjust none none (-1) (n : Int) = ((n : Int) - 1, -1) := rfl
  have e2 : Builtin.Slice.slicePlaces ((n : Int) - 1) (-1) (-1) = n := by
    unfold Builtin.Slice.slicePlaces
    have h1 : ¬ ((-1 : Int) > 0) := by omega
    have h2 : (- -1 : Int) = 1 := by decide
    simp only [h1, if_false, h2, Int.ediv_one]
    split <;> omega
  show wpAny _ _ (match Builtin.Slice.sliceAdjust none none (-1) (n : Int) with | (lo, hi) => pure (lo, (-1 : Int), Builtin.Slice.slicePlaces lo hi (-1))) _ _ s
  rw [e1]
  show wpAny _ _ (pure ((n : Int) - 1, (-1 : Int), Builtin.Slice.slicePlaces ((n : Int) - 1) (-1) (-1))) _ _ s
  rw [e2]
  exact wpAny_pure h
theorem pick_rev (xs : Array Value) : ((List.range xs.size).filterMap fun (k : Nat) => xs[((xs.size : Int) - 1 + (k : Int) * (-1)).toNat]?).toArray = xs.toList.reverse.toArray := by
  have e : (List.range xs.size).filterMap (fun (k : Nat) => xs[((xs.size : Int) - 1 + (k : Int) * (-1)).toNat]?) = ((List.range xs.size).map fun k => xs.size - 1 - k).filterMap (xs[·]?) := by
    rw [List.filterMap_map]
    have cg : ∀ (l : List Nat) (f g : Nat → Option Value), (∀ k ∈ l, f k = g k) → l.filterMap f = l.filterMap g := by
      intro l f g
      induction l with
      | nil => intro _; rfl
      | cons a l ih => intro h; rw [List.filterMap_cons, List.filterMap_cons, h a List.mem_cons_self, ih fun k m => h k (List.mem_cons_of_mem _ m)]
    apply cg
    intro k hk
    have := List.mem_range.mp hk
    show xs[((xs.size : Int) - 1 + (k : Int) * (-1)).toNat]? = xs[xs.size - 1 - k]?
    congr 1
    omega
  rw [e, PySem.W.krv_range, List.filterMap_reverse, PySem.W.krv_all]
theorem getItem_tuple_rev {t sl : Addr} {items : Array Value} {vl vu vs : Value} {Q : Value → Shared → Prop} (ht : IsTup s.heap t items) (hs : s.heap.IsSliceOf sl vl vu vs) (pl : IsPart vl none) (pu : IsPart vu none) (ps : IsPart vs (some (-1)))
    (h : Q (.ref s.heap.objs.size) { s with heap := s.heap.push { cls := .type "tuple", data := .seq items.toList.reverse.toArray } })
    (hsz : items.size ≤ sizeLine) : wpAny (model prog w) A (getItem (.ref t) (.ref sl)) Q E s := by
  have htake : sizeOk (.seq items.toList.reverse.toArray) := by
    show items.toList.reverse.toArray.size ≤ sizeLine
    rw [List.size_toArray, List.length_reverse, Array.length_toList]
    exact hsz
  obtain ⟨os, hos, hcs, hds⟩ := id hs
  have hTs : s.TypeIs (.ref sl) "slice" := ⟨os, hos, hcs⟩
  unfold getItem
  try with_reducible refine wpAny_holding ?_
  first | refine wpAny_bind (wpAny_pure ?_) | skip
  refine wpAny_bind (wpAny_sequenceKey ht.typeIs (by decide) ?_)
  refine wpAny_bind (wpAny_callSpecial?_slot (name := Str.ofString "__getitem__") ht.typeIs PyProof.Rows.slot_tuple_getitem
    (wpAny_call_entry PyProof.Rows.slot_tuple_getitem ht.typeIs entry_tuple_getitem ?_ (args_tuple_getitem _ _)))
  show wpAny _ _ (Builtin.Tuple.tupleItemsOf (.ref t) >>= _) _ _ s
  refine wpAny_bind (tupleItemsOf_ ht ?_)
  refine wpAny_bind (wpAny_typeOf hTs ?_)
  rw [if_pos (by decide)]
  refine wpAny_bind (sliceApplied_rev hs pl pu ps ?_)
  have hno : ¬ (((items.size : Int) - 1 == 0 && (-1 : Int) == 1 && items.size == items.size) = true) := by
    intro q
    rw [Bool.and_eq_true, Bool.and_eq_true] at q
    exact absurd (eq_of_beq q.1.2) (by decide)
  show wpAny _ _ (if ((items.size : Int) - 1 == 0 && (-1 : Int) == 1 && items.size == items.size) = true then _ else _) _ _ s
  rw [if_neg hno, pick_rev]
  first
    | exact wpAny_bind (m := Builtin.Tuple.tupleExact _) (wpAny_newObj_type (wpAny_pure ⟨_, rfl, wpAny_pure h⟩) htake)
    | exact wpAny_bind (m := Builtin.Tuple.tupleExact _) (wpAny_newObj_type (wpAny_bind (wpAny_pure (wpAny_pure ⟨_, rfl, wpAny_pure h⟩))) htake)
    | exact wpAny_bind (wpAny_bind (m := Builtin.Tuple.tupleExact _) (wpAny_newObj_type (wpAny_pure (wpAny_pure ⟨_, rfl, wpAny_pure h⟩)) htake))
    | exact wpAny_bind (wpAny_bind (m := Builtin.Tuple.tupleExact _) (wpAny_newObj_type (wpAny_pure ⟨_, rfl, wpAny_pure h⟩) htake))
end
end HT
namespace L2
open PySem PySem.Spec PyProof.Rows
section
variable {X : Cx}
def tRevY (K : PySem.W.Frag) (te : TE) : TE := fun σ H Q => te σ H fun x H1 => (∃ a xs, x = .ref a ∧ SqL K H1 a xs ∧ ∀ p, H1 p = none → Q (.ref p) (upd H1 p (.lst xs.reverse))) ∨ (∃ a xs, x = .ref a ∧ SqT K H1 a xs ∧ ∀ p, H1 p = none → Q (.ref p) (upd H1 p (.tup xs.reverse)))
theorem pe_revY {e : Expr} {te : TE} {k : Nat} {p1 p2 p3 pos : Pos} (he : PE X e te) : PE X (.Subscript e (.Slice none none (some (.UnaryOp .USub (.Constant (.int 1) k p1) p2)) p3) pos) (tRevY X.K te) := by
  refine ⟨fun pins s σ H Q I h => ?_⟩
  refine Subscript_ (thn (he.run pins s σ H _ I h) fun v s1 ⟨x, H1, I1, r1, q1⟩ => ?_)
  have hst : PO X (some (.UnaryOp .USub (.Constant (.int 1) k p1) p2)) (tPart (tUn (rU fun i => .int (-i)) (tC (.int 1)))) := po_some (pe_un un_neg pe_int)
  refine wpAny_Slice (thn (po_none.run pins s1 σ H1 (fun o H2 => o = none ∧ H2 = H1) I1 ⟨rfl, rfl⟩) fun vl s2 ⟨l, H2, I2, pl, el, e2⟩ => ?_)
  subst el e2
  refine thn (po_none.run pins s2 σ H2 (fun o H3 => o = none ∧ H3 = H2) I2 ⟨rfl, rfl⟩) fun vu s3 ⟨u, H3, I3, pu, eu, e3⟩ => ?_
  subst eu e3
  refine thn (hst.run pins s3 σ H3 (fun o H4 => o = some (-1) ∧ H4 = H3) I3 ⟨1, rfl, -1, rfl, rfl, rfl⟩) fun vs s4 ⟨o, H4, I4, ps, eo, e4⟩ => ?_
  subst eo e4
  have I5 : Inv X pins σ H4 { s4 with heap := s4.heap.push { cls := .type "slice", data := .fields #[vl, vu, vs] } } := I4.kept (t' := s4.toks) fun b ob q => Heap.get?_push_of_some _ q
  rcases q1 with ⟨a, xs, ex, hx, q⟩ | ⟨a, xs, ex, hx, q⟩
  · subst ex
    cases r1
    obtain ⟨its, r, ht, hz⟩ := I5.list hx
    have hlen := r.length
    show wpAny (model X.prog X.w) X.A (subscriptTail e (.Slice none none (some (.UnaryOp .USub (.Constant (.int 1) k p1) p2)) p3) (.ref a) (.ref s4.heap.objs.size)) (EP X pins σ Q) X.xe { s4 with heap := s4.heap.push { cls := .type "slice", data := .fields #[vl, vu, vs] } }
    refine tail_any (ops := [.ref a, .ref s4.heap.objs.size]) ht.isList.typeIs (PySem.slot_list_getitem.lookup) ?_ (by with_unfolding_all rfl)
    refine wpAny_getItem_list_slice ht.isList (Heap.IsSliceOf.new _ vl vu vs) pl pu ps (by decide) ?_ (by rw [List.size_toArray]; omega)
    rw [PySem.W.krv_pick]
    refine ⟨.ref _, _, I5.laid (t' := s4.toks) (o := .lst xs.reverse) (fun b ob q => Heap.get?_push_of_some _ q) (Nat.le_refl _) ?_, rfl, q _ (I5.hok.fresh (Nat.le_refl _))⟩
    exact ⟨by rw [List.length_reverse]; exact hz, _, 0, r.reverse, Heap.get?_push_size _ rfl⟩
  · subst ex
    cases r1
    obtain ⟨its, r, ht, hz⟩ := I5.tuple hx
    have hlen := r.length
    show wpAny (model X.prog X.w) X.A (subscriptTail e (.Slice none none (some (.UnaryOp .USub (.Constant (.int 1) k p1) p2)) p3) (.ref a) (.ref s4.heap.objs.size)) (EP X pins σ Q) X.xe { s4 with heap := s4.heap.push { cls := .type "slice", data := .fields #[vl, vu, vs] } }
    refine tail_any (ops := [.ref a, .ref s4.heap.objs.size]) ht.typeIs (PyProof.Rows.slot_tuple_getitem.lookup) ?_ (by with_unfolding_all rfl)
    refine HT.getItem_tuple_rev ht (Heap.IsSliceOf.new _ vl vu vs) pl pu ps ?_ (by rw [List.size_toArray]; omega)
    refine ⟨.ref _, _, I5.laid (t' := s4.toks) (o := .tup xs.reverse) (fun b ob q => Heap.get?_push_of_some _ q) (Nat.le_refl _) ?_, rfl, q _ (I5.hok.fresh (Nat.le_refl _))⟩
    exact ⟨by rw [List.length_reverse]; exact hz, _, r.reverse, IsTup.new _ _⟩
def rSortedSA (K : PySem.W.Frag) : List V → Hp → VK → Prop := fun vs H Q => ∃ (a : Addr) (xs : List Str), vs = [V.ref a] ∧ SqL K H a (xs.map V.str) ∧
  ∀ (ys : List Str) (p : Addr), ys.Perm xs → sortedS ys = true → H p = none → Q (.ref p) (upd H p (.lst (ys.map V.str)))
end
end L2
namespace Pz
open PySem PySem.Spec PyProof.Rows L2 TL
variable [PenC]
section
variable {X : Cx} {E : WXs} {Z0 : Zs} {e : Expr} {te : DE} {pos p : Pos} {x : Str} {K : Frag}
def wRevY (te : DE) : DE := fun Ed sl st Q => te Ed sl st fun s st => match vw st s with
  | some (.list ds) => Q (.d (.list ds.reverse)) st
  | some (.tuple ds) => Q (.d (.tuple ds.reverse)) st
  | _ => False
theorem wRevY_ap {te : DE} {Ed : DX} {sl : Sls} {st : Sto} {Q : DK} : wRevY te Ed sl st Q = (te Ed sl st fun s st => match vw st s with
  | some (.list ds) => Q (.d (.list ds.reverse)) st
  | some (.tuple ds) => Q (.d (.tuple ds.reverse)) st
  | _ => False) := rfl
theorem de_revY {k : Nat} {p1 p2 p3 : Pos} (he : DEx X E e te) : DEx X E (.Subscript e (.Slice none none (some (.UnaryOp .USub (.Constant (.int 1) k p1) p2)) p3) pos) (wRevY te) :=
  ⟨peI (pe_revY he.run) fun σ H Q ⟨Z, sl, Qd, Ed, h, ok, so, w, kq, kx⟩ =>
    ⟨Z, sl, _, Ed, h, ok, so, w, fun Z1 v s l1 ok1 r1 w1 => by
      simp only at w1
      split at w1
      · rename_i ds e
        obtain ⟨a, xs, rfl, q, r⟩ := r1.list ok1 e
        exact .inl ⟨a, xs, rfl, .of q, (kq.le l1).newL ok1 r.rev w1⟩
      · rename_i ds e
        obtain ⟨a, xs, rfl, q, r⟩ := r1.tuple e
        exact .inr ⟨a, xs, rfl, q.sq, (kq.le l1).newT ok1 r.rev w1⟩
      · exact w1.elim, kx⟩⟩
def fSortedS : FA := fun ss st Q => match ss with
  | [s] => match vw st s with
    | some (.list ds) => ∃ zs, asStrs ds = some zs ∧ ∀ ys : List Str, ys.Perm zs → sortedS ys = true → Q (.d (.list (ys.map .str))) st
    | _ => False
  | _ => False
end
end Pz
set_option maxRecDepth 100000
namespace Pz
open PySem PySem.Spec PyProof.Rows L2 TL
variable [PenC]
section
variable {K : Frag}
def mStr2 (g : Str → Str → Str) : FM := fun s ss st Q => match ss with
  | [t] => match vw st s, vw st t with
    | some (.str a), some (.str b) => a.length ≤ 16777216 ∧ Q (.d (.str (g a b))) st
    | _, _ => False
  | _ => False
def mStrip : FM := fun s ss st Q => mStr2 Txt.stripChars s ss st Q
def mLstrip : FM := fun s ss st Q => mStr2 Txt.lstripChars s ss st Q
def mRstrip : FM := fun s ss st Q => mStr2 Txt.rstripChars s ss st Q
def mPart : FM := fun s ss st Q => match ss with
  | [t] => match vw st s, vw st t with
    | some (.str a), some (.str b) => b.length ≠ 0 ∧ a.length ≤ 16777216 ∧ Q (.d (.tuple [.str (Txt.partition a b).1, .str (Txt.partition a b).2.1, .str (Txt.partition a b).2.2])) st
    | _, _ => False
  | _ => False
end
def subS (z y : Str) : Bool := !(Builtin.Str.occurrences y z 0 y.length 1).isEmpty
def oInT (x y : Sl) (st : Sto) (Q : DK) : Prop := match vw st x, vw st y with
  | some (.str z), some (.str y) => Q (.d (.bool (subS z y))) st
  | _, _ => False
end Pz
set_option maxRecDepth 100000
namespace Pz
open PySem PySem.Spec PyProof.Rows L2 TL
variable [PenC]
def itOk (d : PyData) : Prop := okR d = true ∨ d = .dict []
section
variable {X : Cx} {pins : List (Addr × Obj)} {σ : L2.St} {H : Hp} {s : Shared} {W : Addr → Prop}
end
def rShowX (K : Frag) : List V → Hp → VK → Prop := fun xs H Q => rShow K xs H Q ∨ ∃ (a : Addr) (ds : List PyData) (W : Addr → Prop), xs = [.ref a] ∧ Im K W H (.ref a) (.tuple ds) ∧ (∀ d ∈ ds, itOk d) ∧ (PyData.tuple ds).depth ≤ 60 ∧ (PyData.tuple ds).shown.length ≤ sizeLine ∧ Q (.str (PyData.tuple ds).shown) H
structure RepX (ds : List PyData) : Prop where
  ok : ∀ d ∈ ds, itOk d
  st : PyData.strOk (PyData.tuple ds).shown = true
  ln : (PyData.tuple ds).shown.length ≤ sizeLine
  dp : (PyData.tuple ds).depth ≤ 60
theorem RepX.sh {ds : List PyData} (h : RepX ds) : SeqAt.shaped (.str (PyData.tuple ds).shown) = true := sh_str h.st
def fRepX : FA := fun ss st Q => match ss with
  | [.d (.tuple ds)] => RepX ds ∧ Q (.d (.str (PyData.tuple ds).shown)) st
  | _ => False
end Pz
set_option maxRecDepth 100000
namespace Pz
open PySem PySem.Spec PyProof.Rows L2 TL
variable [PenC]
section
variable {X : Cx} {E : WXs} {Z0 : Zs} {K : Frag} {e : Expr} {te : DE} {pos : Pos}
def kdD (kvs : KD) : List (PyData × PyData) := kvs.map fun p => (keyD p.1, p.2)
def frzX (h : Nat) (x : PyData) : Option Sl → Option Sl
  | some (.o j) => if j = h then some (.d x) else some (.o j)
  | s => s
def wFrzX (n0 i : Nat) (u : DS) : DS := fun D sl st => match nthS sl i with
  | some (.o h) => match st[h]? with
    | some (.dK kvs) => n0 ≤ h ∧ (∀ c ∈ st, NoRef h c) ∧ u D (sl.map (frzX h (.dict (kdD kvs)))) (st.set h .dead)
    | _ => False
  | _ => u D sl st
theorem zip_kd {us : List (Key × V)} {kvs : KD} (h : us.map (·.1) = kvs.map (·.1)) : (us.map fun p => keyD p.1).zip (kvs.map (·.2)) = kdD kvs := by
  have e : us.map (fun p => keyD p.1) = kvs.map fun p => keyD p.1 := by
    have := congrArg (List.map keyD) h
    rwa [List.map_map, List.map_map] at this
  rw [e, kdD]
  clear e h
  induction kvs with
  | nil => rfl
  | cons p l ih => rw [List.map_cons, List.map_cons, List.zip_cons_cons, ih, List.map_cons]
theorem wFrzX_ap {n0 i : Nat} {u : DS} {nx bk ct : Sls → Sto → Prop} {rt : DK} {ex : DX} {sl : Sls} {st : Sto} : wFrzX n0 i u ⟨nx, rt, ex, bk, ct⟩ sl st = (match nthS sl i with
  | some (.o h) => match st[h]? with
    | some (.dK kvs) => n0 ≤ h ∧ (∀ c ∈ st, NoRef h c) ∧ u ⟨nx, rt, ex, bk, ct⟩ (sl.map (frzX h (.dict (kdD kvs)))) (st.set h .dead)
    | _ => False
  | _ => u ⟨nx, rt, ex, bk, ct⟩ sl st) := rfl
def unKE : List (PyData × PyData) → Option KD
  | [] => some []
  | (k, d) :: r => match keyOf k, unKE r with
    | some k, some r => some ((k, d) :: r)
    | _, _ => none
def unKD : List (PyData × PyData) → Option KD
  | (.none, .bool false) :: r => unKE r
  | l => unKE l
theorem keyOf_keyD (k : Key) : keyOf (keyD k) = some k := by cases k <;> rfl
theorem unKE_kdD : ∀ kvs : KD, unKE (kdD kvs) = some kvs
  | [] => rfl
  | (k, d) :: r => by
    show unKE ((keyD k, d) :: kdD r) = _
    rw [unKE, keyOf_keyD, unKE_kdD r]
theorem unKD_kdD : ∀ kvs : KD, unKD (kdD kvs) = some kvs
  | [] => rfl
  | (.inl i, d) :: r => by
    show unKE ((PyData.int i, d) :: kdD r) = _
    exact unKE_kdD ((.inl i, d) :: r)
  | (.inr i, d) :: r => by
    show unKE ((PyData.str i, d) :: kdD r) = _
    exact unKE_kdD ((.inr i, d) :: r)
theorem unKD_loc (kvs : KD) : unKD (mkK :: kdD kvs) = some kvs := unKE_kdD kvs
theorem im_kd {W : Addr → Prop} {H : Hp} {us : List (Key × V)} {ds : List PyData} (h3 : ImAll K W H (us.map (·.2)) ds) : ∃ kvs, (us.map fun p => keyD p.1).zip ds = kdD kvs ∧ ImKD K W H us kvs := by
  have e : us.map (·.1) = ((us.map (·.1)).zip ds).map (·.1) := by
    rw [List.map_fst_zip]
    rw [List.length_map, ← h3.length, List.length_map]
    exact Nat.le_refl _
  have e2 : ((us.map (·.1)).zip ds).map (·.2) = ds := by
    rw [List.map_snd_zip]
    rw [List.length_map, ← h3.length, List.length_map]
    exact Nat.le_refl _
  refine ⟨(us.map (·.1)).zip ds, ?_, e, by rw [e2]; exact h3⟩
  rw [← zip_kd e, e2]
theorem im_dict {W : Addr → Prop} {H : Hp} {v : V} {l : List (PyData × PyData)} {kvs : KD} (h : Im K W H v (.dict l)) (hk : unKD l = some kvs) : ∃ a us, v = .ref a ∧ Rd H a (.dK us) ∧ ¬ W a ∧ ImKD K W H us kvs := by
  generalize hx : PyData.dict l = x at h
  cases h with
  | dct h1 h2 h3 =>
    rename_i a us ds
    cases hx
    obtain ⟨kvs', e, r⟩ := im_kd h3
    rw [e, unKD_kdD] at hk
    cases hk
    exact ⟨a, us, rfl, .inl h1, h2, r⟩
  | dcl h1 h2 h3 =>
    rename_i a o us ds
    cases hx
    obtain ⟨kvs', e, r⟩ := im_kd h3
    rw [e, unKD_loc] at hk
    cases hk
    exact ⟨a, us, rfl, .inr ⟨o, h1⟩, h2, r⟩
  | dcT h1 h2 h3 =>
    cases hx
    cases hk
  | _ => cases hx
def oDGetX (s t : Sl) (st : Sto) (Q : DK) : Prop := match s, keyS st t with
  | .d (.dict l), some k => match unKD l with
    | some kvs => ∃ d, valD kvs k = some d ∧ Q (.d d) st
    | none => False
  | _, _ => False
def wSwp (te to ti to2 ti2 : DE) : DS := fun D sl st => te D.ex sl st fun v st => match v with
  | .d (.tuple [y, z]) => to D.ex sl st fun o st => ti D.ex sl st fun i st => match o, i with
    | .o h, .d (.int j) => match st[h]? with
      | some (.lst ds) => match ixN ds.length j with
        | some n => to2 D.ex sl (st.set h (.lst (ds.set n y))) fun o2 st => ti2 D.ex sl st fun i2 st => match o2, i2 with
          | .o h2, .d (.int j2) => match st[h2]? with
            | some (.lst ds2) => match ixN ds2.length j2 with
              | some n2 => D.nx sl (st.set h2 (.lst (ds2.set n2 z)))
              | none => False
            | _ => False
          | _, _ => False
        | none => False
      | _ => False
    | _, _ => False
  | _ => False
theorem wSwp_ap {te to ti to2 ti2 : DE} {nx bk ct : Sls → Sto → Prop} {rt : DK} {ex : DX} {sl : Sls} {st : Sto} : wSwp te to ti to2 ti2 ⟨nx, rt, ex, bk, ct⟩ sl st = (te ex sl st fun v st => match v with
  | .d (.tuple [y, z]) => to ex sl st fun o st => ti ex sl st fun i st => match o, i with
    | .o h, .d (.int j) => match st[h]? with
      | some (.lst ds) => match ixN ds.length j with
        | some n => to2 ex sl (st.set h (.lst (ds.set n y))) fun o2 st => ti2 ex sl st fun i2 st => match o2, i2 with
          | .o h2, .d (.int j2) => match st[h2]? with
            | some (.lst ds2) => match ixN ds2.length j2 with
              | some n2 => nx sl (st.set h2 (.lst (ds2.set n2 z)))
              | none => False
            | _ => False
          | _, _ => False
        | none => False
      | _ => False
    | _, _ => False
  | _ => False) := rfl
end
end Pz
set_option maxRecDepth 100000
set_option maxHeartbeats 2000000
namespace PySem
namespace Xc
open PySem.W PySem.Calls PyProof.Rows PySem.HandSPX
def refsT (bmB : List Value) : List Value → Bool
  | .ref _ :: r => refsT bmB r
  | l => l == bmB
theorem refsT_cases {bmB : List Value} (l : List Value) (e : refsT bmB l = true) : (∃ c r, l = .ref c :: r ∧ refsT bmB r = true) ∨ l = bmB := by
  unfold refsT at e
  split at e
  · rename_i c r
    exact .inl ⟨c, r, rfl, e⟩
  · exact .inr (beq_iff_eq.mp e)
theorem refsT_pass {B sa ow : String} {bmB : List Value} (F : StoreFacts B bmB sa ow) (self : Value) : ∀ l : List Value, refsT bmB l = true → refuseLoop self "__setattr__" l = pure () := by
  intro l
  induction l with
  | nil =>
    intro e
    rcases refsT_cases _ e with ⟨c, r, q, _⟩ | q
    · cases q
    · rw [q]; exact F.passes self
  | cons a r ih =>
    intro e
    rcases refsT_cases (a :: r) e with ⟨c, r', q, h⟩ | q
    · obtain ⟨rfl, rfl⟩ := List.cons.inj q
      rw [refuseLoop_ref]; exact ih h
    · rw [q]; exact F.passes self
theorem refsT_contains {bmB : List Value} (X : String) : ∀ l : List Value, refsT bmB l = true → l.contains (.type X) = bmB.contains (.type X) := by
  intro l
  induction l with
  | nil =>
    intro e
    rcases refsT_cases _ e with ⟨c, r, q, _⟩ | q
    · cases q
    · rw [q]
  | cons a r ih =>
    intro e
    rcases refsT_cases (a :: r) e with ⟨c, r', q, h⟩ | q
    · obtain ⟨rfl, rfl⟩ := List.cons.inj q
      rw [List.contains_cons, ih h]; rfl
    · rw [q]
def iA (f : Str) (p1 p2 : Pos) : Arguments := { posonlyargs := [], args := [{ arg := "self", annotation := none, pos := p1 }, { arg := f, annotation := none, pos := p2 }], vararg := none, kwonlyargs := [], kw_defaults := [], kwarg := none, defaults := [] }
def iB (f : Str) (q1 q2 q3 q4 : Pos) : List Stmt := [.Assign [.Attribute (.Name "self" q1) f q2] (.Name f q3) q4]
def iS (f : Str) : Scope := { kind := .function, names := [(PySem.Str.ofString "self", .local), (f, .local)], isGenerator := false, isCoroutine := false, more := [] }
structure Txt (B newId initId : String) (bmB : List Value) (f qn : Str) (K : Frag) (C fI : Addr) : Prop where
  cls : ∃ nm q N bs bm sn sub ab col dd k0 k1 k2 k3 k5, K.lookup C = some (excClassObj nm q C N bs bm true sn sub ab col dd k0 k1 k2 k3 k5 newId) ∧ refsT bmB bm = true
  sa : findIn K (.ref C) "__setattr__" = some (some (.builtin "object.__setattr__"))
  noN : findIn K (.ref C) f = some none
  iC : findIn K (.ref C) "__init__" = some (some (.ref fI))
  tC : typeIn K (.ref fI) = some (.type "function")
  kC : keepIn K (.ref C) = true
  exC : subIn K (.ref C) (.type "BaseException") = some true
  tyC : typeIn K (.ref C) = some (.type "type")
  fn : ∃ (oc : Value) (od : Option Addr) (doc pm : Value) (an : Option Addr) (cdv ct : Value) (osl : Array (Option Value)) (p1 p2 q1 q2 q3 q4 : Pos),
    K.lookup fI = some ⟨oc, od, .func (fnOf "__init__" qn (iA f p1 p2) (iB f q1 q2 q3 q4) (iS f) .none .none doc pm an cdv ct), osl⟩ ∧ codeIn K cdv qn = true
section
variable {prog : Program} {w : World} {A : Around} {E : Value → Shared → Prop} {R : Result → Shared → Prop} {hp : Heap} {g : Array GenState} {d : Drawn} {t : Nat} {os : OsState} {B newId initId ow : String} {bmB : List Value}
theorem osa {K : W.Frag} {name : Str} {tk : Tok} {v : Value} {x C : Addr} {fv : Array Value} {cd : ClassData} (SF : StoreFacts B bmB "object.__setattr__" ow) (hobj : bmB.contains (.type "object") = true)
    (X : K.In hp) (hx : hp.get? x = some { cls := .ref C, data := .fields fv }) (hcd : W.clsIn K C = some cd) (hm : refsT bmB cd.mro = true) (hne : cd.mro.isEmpty = false) (hh : cd.hasDict = true) (ha : W.findIn K (.ref C) name = some none)
    (hq : ∀ h' tk' dx, (∀ b o, b ≠ x → hp.get? b = some o → h'.get? b = some o) → hp.objs.size ≤ dx → dx ≠ x → h'.get? x = some { cls := .ref C, dict := some dx, data := .fields fv } →
      h'.Ns1 dx (fun y => if y = name then some v else none) → R (.ok (.ret .none)) ⟨h', g, d, tk', os⟩) :
    codeAny (model prog w) A (.call (.builtin "object.__setattr__") ⟨[.ref x, .str name tk, v], []⟩) R ⟨hp, g, d, t, os⟩ := by
  have I : W.InstAt hp x { cls := .ref C, data := .fields fv } C none := ⟨hx, rfl, rfl, trivial⟩
  have S0 := F.store_object
  have hob : cd.mro.contains (.type "object") = true := (refsT_contains "object" _ hm).trans hobj
  have hxs : x ≠ hp.objs.size := Nat.ne_of_lt (Heap.lt_size hx)
  have sub : W.Looks (model prog w) hp (isInstance (.ref x) (.type "object")) true := I.type.andThen (W.looks_mroIn X (by unfold W.mroIn; rw [hcd, Option.bind_some, if_neg (by rw [hne]; decide), hob]))
  refine codeAny_call_builtin S0.slot.plain S0.entry (@W.check_slot (model prog w) _ _ ⟨hp, g, d, t, os⟩ "object.__setattr__" "object" "__setattr__" (.ref x) [.str name tk, v] [] _ S0.kind S0.split sub (S0.args (.ref x) (.str name tk) v) ?_)
  have hmr : W.Looks (model prog w) hp (mroOf (.ref C)) cd.mro := (W.looks_clsIn X hcd).andThen .now
  have L3 : W.Looks (model prog w) hp (Builtin.ObjectAttr.storeTaker? none) none := .now
  have hcls : W.Looks (model prog w) hp (classData C) cd := W.looks_clsIn X hcd
  rw [W.osa_eq, refuse_eq]
  refine wpAny_bind (wpAny_bind (I.type.at (wpAny_bind (hmr.at ?_))))
  rw [refsT_pass SF _ _ hm]
  refine wpAny_pure (wpAny_bind (I.type.at (wpAny_bind ((W.looks_findIn X ha).at (wpAny_bind (L3.at ?_))))))
  show wpAny _ _ (Builtin.ObjectAttr.storeInOwnDict (.ref x) (.ref C) (.str name tk) name v false) _ _ _
  obtain ⟨nm, bs, mro, ns, qn, hd, sn, sb, ab, col, del⟩ := cd
  dsimp only at hh
  subst hh
  unfold Builtin.ObjectAttr.storeInOwnDict Builtin.ObjectAttr.ownDictForStores
  repeat (first | with_reducible refine store_in_new ?_ ?_ | with_reducible refine wpAny_loadPart_at hx ?_ | with_reducible refine hcls.at ?_ | wp_step)
  · exact ⟨_, #[], _, (Heap.get?_update_ne _ _ _ _ hxs.symm).trans (Heap.get?_push_at rfl rfl), rfl, fun e he => absurd he (by simp), fun _ => rfl⟩
  · intro h' tk' hn' hs
    have hx₁ : (hp.push { cls := .type "dict", data := .dict #[] }).get? x = some { cls := .ref C, data := .fields fv } := Heap.get?_push_of_some _ hx
    refine hq h' tk' hp.objs.size (fun b o hb ho => ?_) (Nat.le_refl _) hxs.symm ?_ hn'
    · exact (hs.2 b (Nat.ne_of_lt (Heap.lt_size ho))).trans ((Heap.get?_update_ne _ _ _ _ hb).trans (Heap.get?_push_of_some _ ho))
    · exact (hs.2 x hxs).trans (Heap.get?_update_self _ hx₁ rfl)
end
theorem one_size (v : Value) : [v].length ≤ sizeLine := by
  rw [sizeLine_eq]
  exact (by decide : 1 ≤ 16777216)
theorem ldC {M : Model} {s : Shared} {name : Str} {scope : Scope} {L a : Addr} {cd : Value} {m : Str → Option Value} {x : Str} {pos : Pos} {v : Value} {Q : Value → Shared → Prop} {A : Around} {E : Value → Shared → Prop} (hn : s.heap.Ns L m) (hv : m x = some v) (h : Q v s)
    (hk : scope.kind = .function := by rfl) (hl : (envOfC name scope L a cd).kindOf x = some .local := by rfl) (hd : (x == ("__debug__" : Str)) = false := by decide) :
    wpAny M A (eval (.Name x pos) (envOfC name scope L a cd)) Q E s := wpAny_Name (wpAny_loadName_local hk hl hn hv h) hd
structure InitEnd (h h' : Heap) (x C dx t1 : Addr) (f : Str) (v : Value) : Prop where
  keep : ∀ b o, b ≠ x → h.get? b = some o → h'.get? b = some o
  obj : h'.get? x = some { cls := .ref C, dict := some dx, data := .fields #[.ref t1, .none, .none, .none, .bool false, .none] }
  dbig : h.objs.size ≤ dx
  dne : dx ≠ x
  ns : h'.Ns1 dx (fun y => if y = f then some v else none)
structure OwnMade (h h' : Heap) (e C d : Addr) (f : Str) (v : Value) : Prop where
  keep : ∀ b o, h.get? b = some o → h'.get? b = some o
  new : h.objs.size ≤ e
  obj : ∃ oe vs, h'.get? e = some oe ∧ oe.cls = .ref C ∧ oe.dict = some d ∧ oe.data = .fields vs ∧ vs[1]? = some .none
  dbig : h.objs.size ≤ d
  dne : d ≠ e
  ns : h'.Ns1 d (fun y => if y = f then some v else none)
def InitRun (B newId initId : String) (bmB : List Value) (f qn : Str) (K : Frag) (C fI : Addr) : Prop := ∀ (prog : Program) (w : World) (A : Around) (R : Result → Shared → Prop) (s : Shared) (x t0 : Addr) (v : Value), Txt B newId initId bmB f qn K C fI → K.In s.heap → s.heap.NoLimit → s.heap.get? x = some (excO C t0) → A.depth < recursionLimit →
    (∀ h' tk dx, InitEnd s.heap h' x C dx t0 f v → R (.ok (.ret .none)) { s with heap := h', toks := tk }) → codeAny (model prog w) A (.call (.ref fI) ⟨[.ref x, v], []⟩) R s
section
variable {K : Frag} {C fI : Addr} {B newId initId ow : String} {bmB : List Value} {qn : Str}
theorem init_count (SF : StoreFacts B bmB "object.__setattr__" ow) (hobj : bmB.contains (.type "object") = true) : InitRun B newId initId bmB "count" qn K C fI := by
  intro prog w A R s x t0 v T X hlim hx hroom hq
  obtain ⟨oc, od, doc, pm, an, cdv, ct, osl, p1, p2, q1, q2, q3, q4, ho, hcd⟩ := T.fn
  obtain ⟨nm, q, N, bs, bm, sn, sub, ab, col, dd, k0, k1, k2, k3, k5, hC, hbm⟩ := T.cls
  have hcl : clsIn K C = some { name := nm, bases := bs, mro := .ref C :: bm, ns := N, qualname := q, hasDict := true, slotNames := sn, subclasses := sub, abstract := ab, collection := col, hasDel := false } := by unfold clsIn; rw [hC] <;> rfl
  refine Att.call_fn (binds := [("self", .ref x), ("count", v)]) X hlim ho hcd hroom (BindsTo.of_eq (by first | rfl | with_unfolding_all rfl)) (by first | rfl | decide | with_unfolding_all rfl) (fun s₁ IC => ?_) rfl rfl rfl
  obtain ⟨h₁, tk₁, rfl⟩ := IC.toInCall.same
  have k : ∀ b o, s.heap.get? b = some o → h₁.get? b = some o := IC.toInCall.keep
  have hn := IC.toInCall.ns
  have hxL : s.heap.objs.size ≠ x := Nat.ne_of_gt (Heap.lt_size hx)
  have X₁ : K.In h₁ := X.keeps k
  have hx₁ := k _ _ hx
  show wpAny _ _ (execs _ _) _ _ _
  refine wpAny_execs_cons (plainObj_wpAny_Assign_Attribute ?_)
  refine ldC (v := v) hn (by first | rfl | with_unfolding_all rfl | kernel_rfl) (ldC (v := .ref x) hn (by first | rfl | with_unfolding_all rfl | kernel_rfl) ?_)
  refine set_plain X₁ (ox := excO C t0) (od := none) ⟨hx₁, rfl, rfl, trivial⟩ T.sa ?_
  refine osa SF hobj X₁ hx₁ hcl (show refsT bmB (.ref C :: bm) = true from hbm) rfl rfl T.noN (fun h₃ tk₃ dx k₃ dn dne hx₃ hn₃ => ?_)
  show wpAny _ _ (execs _ _) _ _ _
  have z : s.heap.objs.size < h₁.objs.size := hn.lt
  exact wpAny_execs_nil (hq h₃ tk₃ dx ⟨fun b o hb e => k₃ b o hb (k b o e), hx₃, Nat.le_of_lt (Nat.lt_of_lt_of_le z dn), dne, hn₃⟩)
end
section
variable {prog : Program} {w : World} {A : Around} {E : Value → Shared → Prop} {R : Result → Shared → Prop} {s : Shared} {K : Frag} {C fI : Addr} {B newId initId : String} {bmB : List Value} {f qn : Str}
theorem made (F : ExcBaseFacts B newId initId bmB) (IR : InitRun B newId initId bmB f qn K C fI) (T : Txt B newId initId bmB f qn K C fI) {v : Value} (X : K.In s.heap) (hlim : s.heap.NoLimit) (hroom : A.depth + 1 < recursionLimit)
    (hq : ∀ h' tk e d, OwnMade s.heap h' e C d f v → R (.ok (.ret (.ref e))) { s with heap := h', toks := tk }) :
    codeAny (model prog w) A (.call (.ref C) ⟨[v], []⟩) R s := by
  obtain ⟨nm, q, N, bs, bm, sn, sub, ab, col, dd, k0, k1, k2, k3, k5, hC, hbm⟩ := T.cls
  obtain ⟨hp, g, dr, tk, os⟩ := s
  have k : ∀ b o, hp.get? b = some o → ((hp.push (kdv_tup [v])).push (excO C hp.objs.size)).get? b = some o := fun b o e => Heap.get?_push_of_some _ (Heap.get?_push_of_some _ e)
  have hget : ((hp.push (kdv_tup [v])).push (excO C hp.objs.size)).get? (hp.objs.size + 1) = some (excO C hp.objs.size) := by heap_get
  refine call_own F (fun X => refsT_contains X bm hbm) (X _ _ hC) (looks_findIn X T.iC) (fun self => bind_fn X self T.tC) (one_size v) ?_
  refine IR _ _ _ _ ⟨(hp.push (kdv_tup [v])).push (excO C hp.objs.size), g, dr, tk, os⟩ _ _ _ T (X.keeps k) (hlim.keeps k) hget ?_ fun h' tk' dx ⟨k', hx, dn, dne, hns⟩ => ?_
  · show A.depth + 1 < recursionLimit
    exact hroom
  · have old : ∀ b o, hp.get? b = some o → h'.get? b = some o := fun b o e => k' b o (Nat.ne_of_lt (Nat.lt_succ_of_lt (Heap.lt_size e))) (k b o e)
    have z : hp.objs.size + 1 + 1 ≤ dx := by
      first
        | (simpa only [Heap.size_push] using dn)
        | exact dn
        | (have q := dn; rw [Heap.size_push, Heap.size_push] at q; exact q)
    exact ⟨rfl, hq h' tk' (hp.objs.size + 1) dx ⟨old, Nat.le_succ _, ⟨_, _, hx, rfl, rfl, rfl, rfl⟩, Nat.le_trans (Nat.le_trans (Nat.le_succ _) (Nat.le_succ _)) z, dne, hns⟩⟩
end
end Xc
end PySem
namespace L2
open PySem PySem.Spec PyProof.Rows
theorem relO_one {f : Str} {v : V} {v' : Value} (r : RelV v v') (g : Str) : RelO (List.lookup g [(f, v)]) (if g = f then some v' else none) := by
  by_cases hw : g = f
  · subst hw
    rw [if_pos rfl]
    have q : List.lookup g [(g, v)] = some v := by simp [List.lookup]
    rw [q]
    exact r
  · rw [if_neg hw]
    have qw : (g == f) = false := by simpa using hw
    have q2 : List.lookup g [(f, v)] = none := by simp [List.lookup, qw]
    rw [q2]
    trivial
section
variable {X : Cx} {C fI : Addr} {B newId initId : String} {bmB : List Value} {f qn x : Str}
def tMk1 (f : Str) (C : Addr) (ta : TA) : St → Hp → XK → Prop := fun σ H Q => ta σ H fun vs H1 => ∃ v, vs = [v] ∧ ∀ d, H1 d = none → Q (.ref C) (some d) (upd H1 d (.xd [(f, v)]))
theorem pmk1 {a : Expr} {ta : TA} {p pos : Pos} {k : Nat} (F : ExcBaseFacts B newId initId bmB) (IR : PySem.Xc.InitRun B newId initId bmB f qn X.K C fI) (T : PySem.Xc.Txt B newId initId bmB f qn X.K C fI) (gC : X.mg x = some (.ref C)) (hr : Room k X.A) (ha : PA X [a] ta) (hg : Gl X x)
    (hdb : (x == ("__debug__" : Str)) = false := by decide) (he : starEach (a :: []) X.env = (false, eval a X.env) :: starEach [] X.env := by rfl) (hpl : (backTo pos (starEach [] X.env)).any (·.1) = false := by rfl) :
    PMk X (.Call (.Name x p) [a] [] pos) (tMk1 f C ta) := by
  intro pins s σ H Q I h
  refine wpAny_Call_Name_kw (ld_glob I hg gC ?_ hdb)
  refine PySem.W.callWith_K (h₀ := X.base) I.ok.mod.kin T.kC (thn (ha.run pos pins s σ H _ I h) fun us s1 hh => ?_) he hpl
  obtain ⟨vs, H1, I1, r1, v, ev, q1⟩ := hh
  subst ev
  refine ⟨I1.kIn, ?_⟩
  cases r1 with
  | cons rv rn =>
    rename_i v' us'
    cases rn
    show wpAny _ _ (call (.ref C) [v']) _ _ _
    have hlim := I1.nolimit
    obtain ⟨hp, g, dr, tk, os⟩ := s1
    refine wpAny_call (PySem.Xc.made F IR T I1.kIn hlim (by have := hr.dp; omega) fun h' tk' e d M => ?_)
    show MkP X pins σ Q (.ref e) ⟨h', g, dr, tk', os⟩
    obtain ⟨oe, fv, hoe, hc, hd, hdat, h1⟩ := M.obj
    have hns := M.ns
    obtain ⟨G', g1, g2⟩ := restrict h' fun b => decide (b ≠ e)
    have gk : ∀ b, b ≠ e → G'.get? b = h'.get? b := fun b hb => g1 b (decide_eq_true hb)
    have ge : G'.get? e = none := g2 e (by simp)
    have old : ∀ b o, hp.get? b = some o → G'.get? b = some o := fun b o q => (gk b (Nat.ne_of_lt (Nat.lt_of_lt_of_le (Heap.lt_size q) M.new))).trans (M.keep b o q)
    have ob : ObjOk X.prog X.w (upd H1 d (.xd [(f, v)])) G' d (.xd [(f, v)]) :=
      ⟨_, hns.at (fun o q => (gk d M.dne).trans q), fun g => relO_one rv g⟩
    have J : Inv X pins σ (upd H1 d (.xd [(f, v)])) ⟨G', g, dr, tk', os⟩ := I1.laid (t' := tk') old M.dbig ob
    refine ⟨e, oe, fv, ⟨G', g, dr, tk', os⟩, _, .ref C, some d, rfl, J, fun b o q => ?_, ge, hoe, ⟨hc, hd⟩, hdat, h1, ?_, rfl, I1.bare, raises_own T.exC T.tyC, q1 d (I1.hok.fresh M.dbig)⟩
    · by_cases hb : b = e
      · have q' : G'.get? b = some o := q
        rw [hb, ge] at q'; cases q'
      · exact (gk b hb).symm.trans q
    · rw [upd_ne (Ne.symm M.dne)]
      exact I1.hok.fresh M.new
end
end L2
set_option maxRecDepth 100000
namespace PySem.W
open PySem PySem.Spec PySem.Calls PyProof.Rows
variable {M : Model} {K : Frag}
theorem exm_tupN {cs : List Value} {cls : Value} {tp e : Addr} {b : Bool} {h : Heap} {o : Obj} {n : Nat} (X : K.In h) (LT : Looks M h (typeOf (.ref e)) cls) (hp : h.get? tp = some o) (hc : o.cls = .type "tuple") (hd : o.data = .seq cs.toArray n) (hx : exmAny K cls cs = some b) :
    Looks M h (excMatches (.ref e) (.ref tp)) b := by
  have all : ∀ {l : List Value} {b : Bool}, exmAny K cls l = some b → ∀ c ∈ l, Looks M h (isExcClass c) true := by
    intro l
    induction l with
    | nil => intro b _ c m; cases m
    | cons c l ih =>
      intro b hx d m
      obtain ⟨b1, d1, x1, y1, z1⟩ := exmAny_cons hx
      rcases List.mem_cons.mp m with rfl | m
      · exact (exm_cls (M := M) X x1).1
      · exact ih y1 d m
  have a0 := all hx
  intro A Q E s k₀ q
  obtain ⟨hh, g, d, tk, os⟩ := s
  have k : ∀ b o, h.get? b = some o → hh.get? b = some o := k₀
  have L0 : Looks M h (typeOf (.ref tp)) (.type "tuple") := fun A Q E s k q => wpAny_typeOf_ref (k _ _ hp) (by rw [hc]; exact q)
  have LT0 : Looks M h (isInstance (.ref tp) (.type "tuple")) true := L0.andThen (Looks.of_pure isSubtype_tuple_tuple)
  have hp' := k _ _ hp
  unfold excMatches
  refine wpAny_bind ((LT0.keeps k).at ?_)
  dsimp only
  rw [if_pos rfl]
  first
    | refine wpAny_bind (wpAny_seqItems hp' hd ?_)
    | refine wpAny_bind (wpAny_bind (wpAny_seqItems hp' hd (wpAny_pure ?_)))
  dsimp only [Option.getD_some, Option.getD]
  have loop1 : ∀ (l : List Value) {R : PUnit → Shared → Prop} {s : Shared}, (∀ c ∈ l, Looks M h (isExcClass c) true) → (∀ b o, h.get? b = some o → s.heap.get? b = some o) → R PUnit.unit s →
      wpAny M A (forIn l PUnit.unit fun (c : Value) (_ : PUnit) => (do
          let x ← isExcClass c
          if (!x) = true then do
              rule "try.except-non-exception-class"
              raiseErrorWords "TypeError" "catching classes that do not inherit from BaseException is not allowed"
              pure (ForInStep.yield PUnit.unit)
            else pure (ForInStep.yield PUnit.unit) : Sem (ForInStep PUnit))) R E s := by
    intro l
    induction l with
    | nil => intro R s _ _ r; rw [List.forIn_nil]; exact wpAny_pure r
    | cons c l ih =>
      intro R s ha k r
      rw [List.forIn_cons]
      refine wpAny_bind (wpAny_bind (((ha c List.mem_cons_self).keeps k).here ?_))
      rw [if_neg (by decide)]
      refine wpAny_pure ?_
      dsimp only
      exact ih (fun d m => ha d (List.mem_cons_of_mem _ m)) k r
  have loop2 : ∀ (l : List Value) {b : Bool} {R : Option Bool × Unit → Shared → Prop} {s : Shared}, exmAny K cls l = some b → (∀ b o, h.get? b = some o → s.heap.get? b = some o) → R (if b = true then some true else none, ()) s →
      wpAny M A (forIn l ((none, ()) : Option Bool × Unit) fun (c : Value) (_ : Option Bool × Unit) => (do
            let x ← isSubtype cls c
            if x = true then pure (ForInStep.done (some true, ())) else pure (ForInStep.yield (none, ())) : Sem (ForInStep (Option Bool × Unit)))) R E s := by
    intro l
    induction l with
    | nil =>
      intro b R s e _ r
      cases e
      rw [List.forIn_nil]
      exact wpAny_pure r
    | cons c l ih =>
      intro b R s e k r
      obtain ⟨b1, d1, x1, y1, z1⟩ := exmAny_cons e
      subst z1
      rw [List.forIn_cons]
      refine wpAny_bind (wpAny_bind (((exm_cls (M := M) X x1).2.keeps k).here ?_))
      cases b1 with
      | true =>
        rw [if_pos rfl]
        refine wpAny_pure ?_
        dsimp only
        exact wpAny_pure r
      | false =>
        rw [if_neg (by decide)]
        refine wpAny_pure ?_
        dsimp only
        exact ih y1 k r
  refine wpAny_bind (wpAny_pure ?_)
  refine wpAny_bind (loop1 cs a0 k ?_)
  refine wpAny_bind ((LT.keeps k).at ?_)
  refine wpAny_bind (loop2 cs hx k ?_)
  cases b with
  | true => exact wpAny_pure q
  | false => exact wpAny_pure q
end PySem.W
namespace L2
open PySem PySem.Spec PyProof.Rows
abbrev ExO (c : Value) (d : Option Addr) (a : Addr) : HO := Pz.ExH c d a
section
variable {X : Cx} {pins : List (Addr × Obj)} {σ : St} {H : Hp} {s : Shared}
theorem Inv.adopt {a : Addr} {oe : Obj} {cls : Value} {d : Option Addr} (I : Inv X pins σ H s) (he : s.heap.get? a = some oe) (hz : Zc cls d oe) (hd : ∃ vs, oe.data = .fields vs) (na : H a = none) (n0 : X.s_0.heap.get? a = none) (nL : a ≠ X.env.locals) (np : ∀ p ∈ X.pn ++ pins, p.1 ≠ a) :
    Inv X pins σ (upd H a (ExO cls d a)) s := by
  have up : ∀ b u, H b = some u → upd H a (ExO cls d a) b = some u := fun b u e => by
    rw [upd_ne (fun z => by rw [z, na] at e; cases e)]; exact e
  refine ⟨I.ok, I.os, I.bare, ⟨I.base.keep, I.base.slot, fun b o e n hx => ?_, I.base.there, fun b xs e => up _ _ (I.base.tups b xs e), fun b o xs e => up _ _ (I.base.frzs b o xs e), fun b ps e => ?_⟩, I.loc, I.cell, ?_, fun x c e => ?_, fun p hp => ?_, fun b u e => ?_, I.len⟩
  · rw [upd_ne (fun z => by rw [z, n0] at e; cases e)]
    exact I.base.free b o e n hx
  · obtain ⟨m, z⟩ := I.base.tbls b ps e
    exact ⟨m, up _ _ z⟩
  · rw [upd_ne (Ne.symm nL)]
    exact I.free
  · rw [upd_ne (fun z => ?_)]
    · exact I.freeC x c e
    · subst z
      obtain ⟨v, o, ho, hdd⟩ := I.cell x c e
      obtain ⟨vs, hd⟩ := hd
      rw [he] at ho; cases ho
      rw [hd] at hdd; cases hdd
  · obtain ⟨e, n, ne, nf, dd⟩ := I.pin p hp
    exact ⟨e, by rw [upd_ne (np p hp)]; exact n, ne, nf, dd⟩
  · by_cases hb : b = a
    · subst hb
      rw [upd_same] at e
      cases e
      obtain ⟨vs, hd⟩ := hd
      exact ⟨⟨oe, vs, he, hz, hd⟩, ⟨oe, he⟩, fun h1 h2 ⟨o1, vs1, e1, z1, d1⟩ k => ⟨o1, vs1, k _ e1, z1, d1⟩⟩
    · rw [upd_ne hb] at e
      exact (I.hok b u e).stay (fun c w _ q => q) (fun c q => up _ _ q) fun c xs q => up _ _ q
inductive NmL (X : Cx) : List Expr → List Value → Prop
  | nil : NmL X [] []
  | cons {x : Str} {c : Value} {p : Pos} {es : List Expr} {cs : List Value} (hc : Names X x c) (r : NmL X es cs) (hs : starEach (.Name x p :: es) X.env = (false, eval (.Name x p) X.env) :: starEach es X.env := by rfl) : NmL X (.Name x p :: es) (c :: cs)
theorem nm_eval {a : Addr} {oe : Obj} {pn : List (Addr × Obj)} {x : Str} {c : Value} {np : Pos} (S : Inv (X.suite a ((a, oe) :: pn)) pins σ H s) (hc : Names X x c) {Q : Value → Shared → Prop} {E : Value → Shared → Prop} (q : Q c s) :
    wpAny (model X.prog X.w) (X.A.mark (some (.ref a))) (eval (.Name x np) X.env) Q E s := by
  obtain ⟨hg, hdbg, hm | ⟨hm, hv, hnn⟩⟩ := hc
  · exact ld_glob (X := X.suite a ((a, oe) :: pn)) S hg hm q hdbg
  · exact ld_blt (X := X.suite a ((a, oe) :: pn)) S hg hm hv q hnn hdbg
theorem nm_splice {a : Addr} {oe : Obj} {pn : List (Addr × Obj)} {pos : Pos} (S : Inv (X.suite a ((a, oe) :: pn)) pins σ H s) {E : Value → Shared → Prop} : ∀ {es : List Expr} {cs : List Value}, NmL X es cs → ∀ {Q : List Value → Shared → Prop}, Q cs s →
    wpAny (model X.prog X.w) (X.A.mark (some (.ref a))) (spliced (backTo pos (starEach es X.env))) Q E s
  | _, _, .nil, Q, q => Calls.spliced_nil q
  | _, _, .cons (x := x) (p := p) (es := es) hc r hs, Q, q => by
    rw [hs]
    show wpAny _ _ (spliced ((false, eval (.Name x p) X.env) :: backTo pos (starEach es X.env))) _ _ s
    exact Calls.spliced_cons (nm_eval S hc (nm_splice S r q))
def ClTest (X : Cx) (te : Expr) (cs : List Value) : Prop := ∀ {a : Addr} {oe : Obj} {pn pins : List (Addr × Obj)} {σ : St} {H : Hp} {s : Shared}, Inv (X.suite a ((a, oe) :: pn)) pins σ H s → ∀ {Q : Value → Shared → Prop} {E : Value → Shared → Prop},
    (∀ (cv : Value) (s' : Shared), (∀ b o, s.heap.get? b = some o → s'.heap.get? b = some o) → s'.os = s.os → AllBare s'.gens → (∀ (M : Model) (cls : Value), PySem.W.Looks M s'.heap (typeOf (.ref a)) cls → ∀ b, PySem.W.exmAny X.K cls cs = some b → PySem.W.Looks M s'.heap (excMatches (.ref a) cv) b) → Q cv s') →
    wpAny (model X.prog X.w) (X.A.mark (some (.ref a))) (eval te X.env) Q E s
theorem clt_tup {es : List Expr} {cs : List Value} {k : Nat} {np : Pos} (hc : NmL X es cs) (hl : cs.length ≤ sizeLine := by rw [sizeLine_eq]; decide) : ClTest X (.Tuple es k np) cs := by
  intro a oe pn pins σ H s S Q E q
  refine wpAny_Tuple_spliced (nm_splice S hc ⟨hl, ?_⟩)
  have kp : ∀ b o, s.heap.get? b = some o → (s.heap.push { cls := .type "tuple", data := .seq cs.toArray }).get? b = some o := fun b o e => Heap.get?_push_of_some _ e
  exact q _ _ kp rfl S.bare fun M cls LT b hb => PySem.W.exm_tupN (S.kIn.keeps kp) LT (Heap.get?_push_size _ rfl) rfl rfl hb
end
def wKeep (K : PySem.W.Frag) (cs : List Value) (i j : Nat) (Wout : WX) (D : Ends) : WX := fun cls d σ H =>
  ∃ b, PySem.W.exmAny K cls cs = some b ∧ (b = true → ∀ a, H a = none → D.nx (((σ.set i (some (.ref a))).set j (some (.ref a))).set i none) (upd H a (ExO cls d a))) ∧ (b = false → Wout cls d σ H)
theorem flying_ext {B h h' : Heap} {l : List Env} {a : Addr} {Z : Obj → Prop} (f : HandSPX.FlyingZ B l a Z h) (k : ∀ b o, h.get? b = some o → h'.get? b = some o) : HandSPX.FlyingZ B l a Z h' := by
  obtain ⟨h1, h2, h3, oe, vs, T, oT, ts, he, hz, hd, h4, h5, h6, h7, h8, h9⟩ := f
  exact ⟨fun b o e => k _ _ (h1 b o e), h2, h3.of_keeps fun b o e _ => ⟨o, k _ _ e, rfl⟩, oe, vs, T, oT, ts, k _ _ he, hz, hd, h4, h5, h6, k _ _ h7, h8, h9⟩
section
variable {X : Cx} {n : Str} {te : Expr} {cs : List Value} {i j : Nat} {body : List Stmt} {b₀ : Stmt} {pos pos' : Pos} {tb : WX → TS} {Wout : WX}
theorem ps_try_keep (hs : X.stack = X.env :: X.outer) (hf : X.env.frame = some X.env.locals) (hex : X.ex = []) (hN : X.N.Nodup) (hi : X.N[i]? = some n) (hln : X.env.kindOf n = some .local) (hc : ClTest X te cs) (tk : Takes X Wout)
    (hb : ∀ (W : WX) (pn : List (Addr × Obj)) (xe : Value → Shared → Prop), Takes (X.tr pn xe) W → PassesOwn (model X.prog X.w) X.A X.env xe → PSs (X.tr pn xe) body (tb W))
    (hsu : ∀ (a : Addr) (oe : Obj) (pn : List (Addr × Obj)), PSs (X.suite a ((a, oe) :: pn)) [b₀] (tAsg (tVar i) (gName j))) :
    PS X (.Try body [.ExceptHandler (some te) (some n) [b₀] pos'] [] [] pos) (fun D σ H => tb (wKeep X.K cs i j Wout D) D σ H) := by
  refine ⟨fun pins s σ H D I h => ?_⟩
  have ok := I.ok
  have hfr : X.A.frames = some (X.env :: X.outer) := by rw [ok.frames, hs]
  have hloc : Loc X.env.scope n := .inl hln
  refine wpAny_Try_except ?_
  refine wpAny_mono ((hb (wKeep X.K cs i j Wout D) (X.pn ++ pins) (fun e s₁ => wpAny (model X.prog X.w) X.A (noteFrame e X.env) (fun _ s₂ => wpAny (model X.prog X.w) X.A (setFlight e none) (fun _ s₃ =>
    wpAny (model X.prog X.w) X.A (handleBy e X.env [.ExceptHandler (some te) (some n) [b₀] pos']) (SP X pins D) X.xe s₃) X.xe s₂) X.xe s₁) (fun u s' xx => ?_) PassesOwn.looking).run [] s σ H D (I.toTry _) h) (fun f s1 hsp => ?_) (fun e s1 he => he)
  · obtain ⟨a, B, sI, pins', σ', H', cls, d, rfl, J', nb, up, sky, na, os, ag, b, hb1, hyes, hno⟩ := xx
    have J : Inv X pins σ' H' sI := J'.ofTry ok
    have sky' : Sky B (X.env :: X.outer) a (Zc cls d) X.env.locals s'.heap := by rw [← hs]; exact sky
    show wpAny (model X.prog X.w) X.A (noteFrame (.ref a) X.env) _ _ _
    refine Sky.land Zc.steady hfr hf sky' fun h3 fl3 up3 => ?_
    have J3 : Inv X pins σ' H' { s' with heap := h3 } := J.landed nb fl3.1 (up.trans up3) os ag
    obtain ⟨oe3, vs3, he3, hz3, hd3⟩ := fl3.there
    have notFr : ∀ {h : Heap} {o : Obj} {vs : Array Value}, h.FunFrames B (X.env :: X.outer) → h.get? a = some o → o.data = .fields vs → a ∉ frs (X.env :: X.outer) := fun {h o vs} ff e dd hm => by
      obtain ⟨_, o', e', hnf⟩ := ff.mem hm
      rw [e] at e'; cases e'
      exact hnf _ dd
    have nfr := notFr fl3.2.2.1 he3 hd3
    have nL : a ≠ X.env.locals := fun z => nfr (List.mem_filterMap.mpr ⟨X.env, List.mem_cons_self, by rw [hf, z]⟩)
    have nF : a ∉ X.fs := fun hm => by
      obtain ⟨e, he, q⟩ := List.mem_filterMap.mp hm
      exact nfr (List.mem_filterMap.mpr ⟨e, List.mem_cons_of_mem _ he, q⟩)
    have nB : B.get? a = none := fl3.2.1
    have n0 : X.s_0.heap.get? a = none := by
      cases e : X.s_0.heap.get? a with
      | none => rfl
      | some o =>
        obtain ⟨o', e1⟩ := J.base.there a o e (by rw [hex]; exact fun z => by cases z)
        have := nb a o' e1 (by rw [hs]; exact nfr)
        rw [nB] at this; cases this
    have np : ∀ p ∈ X.pn ++ pins, p.1 ≠ a := fun p hp z => by
      obtain ⟨e, _, ne, nf, _⟩ := J.pin p hp
      have := nb p.1 p.2 e (fun hm => (List.mem_cons.mp (J.stkSub p.1 hm)).elim ne nf)
      rw [z, nB] at this; cases this
    have S3 := J3.suite he3 hd3 na nL nF
    refine wpAny_handleBy_cons (codeAny_handlers_test ?_) (by intro q; cases q)
    refine hc S3 fun cv s5 k5 os5 ag5 hm5 => ?_
    have fl5 := flying_ext fl3 k5
    have LT : PySem.W.Looks (model X.prog X.w) s5.heap (typeOf (.ref a)) cls := fun A Q E s k q => wpAny_typeOf_ref (k _ _ (k5 _ _ he3)) (by rw [hz3.1]; exact q)
    refine (hm5 _ cls LT b hb1).here ?_
    have up5 : sI.heap.UpToSlots s5.heap := (up.trans up3).trans (Heap.UpToSlots.of_keeps k5)
    have os5' : s5.os = sI.os := os5.trans os
    cases b with
    | true =>
      refine codeAny_handlers_suite_as ?_
      refine HandSPX.lands_againZ fl5 fun h4 fl4 up4 => ?_
      have J4 : Inv X pins σ' H' { s5 with heap := h4 } := J.landed nb fl4.1 (up5.trans up4) os5' ag5
      obtain ⟨oe4, vs4, he4, hz4, hd4⟩ := fl4.there
      have S4 := J4.suite he4 hd4 na nL nF
      have li : i < σ'.length := by rw [J.len]; exact (List.getElem?_eq_some_iff.mp hi).1
      refine store_ok (X := X.suite a ((a, oe4) :: (X.pn ++ pins))) (v := .ref a) S4 hN hi hloc rfl (fun s6 S6 => ?_) (.inr hln)
      refine wpAny_mono ((hsu a oe4 (X.pn ++ pins)).run [] s6 _ H' { nx := fun σ6 H6 => σ6 = (σ'.set i (some (.ref a))).set j (some (.ref a)) ∧ H6 = H', rt := fun _ _ => False } S6 ⟨.ref a, List.getElem?_set_self li, rfl, rfl⟩) (fun f s7 hsp => ?_) (fun _ _ z => False.elim z)
      cases f with
      | next =>
        obtain ⟨σ6, H6, S7, rfl, rfl⟩ := hsp
        have he7 := (S7.pin (a, oe4) (List.mem_append_left _ List.mem_cons_self)).1
        have A7 := (S7.unsuite ok).adopt he7 hz4 ⟨_, hd4⟩ na n0 nL np
        refine gone_ok A7 hN hi hln fun s8 J8 => ⟨_, _, J8, hyes rfl a na⟩
      | brk => obtain ⟨_, _, _, z⟩ := hsp; exact z.elim
      | cont => obtain ⟨_, _, _, z⟩ := hsp; exact z.elim
      | ret u => obtain ⟨_, _, _, _, _, z⟩ := hsp; exact z.elim
    | false =>
      show wpAny _ X.A (handleBy (.ref a) X.env []) _ _ _
      refine wpAny_handleBy_nil ?_
      obtain ⟨k1, k2, k3, oe, vs, T, oT, ts', he, hz, hd, h1, hr⟩ := id fl5
      unfold PySem.passOn
      refine wpAny_bind (wpAny_field he hd h1 ?_)
      rw [if_neg (show ¬ ((Value.ref T == Value.none) = true) from by simp)]
      have fin : wpAny (model X.prog X.w) X.A (setFlight (.ref a) X.env.frame) (fun _ s4 => wpAny (model X.prog X.w) X.A (throw (.ref a) : Sem Flow) (SP X pins D) X.xe s4) X.xe s5 := by
        rw [hf]
        refine HandSPX.setFlight_upZ fl5 fun h4 hh4 up4 => wpAny_throw (tk _ _ ?_)
        exact ⟨a, B, sI, pins, σ', H', cls, d, rfl, J, nb, up5.trans up4, .inr (.inr (by rw [hs]; exact hh4)), na, os5', ag5, hno rfl⟩
      first
        | exact wpAny_bind (wpAny_pure (wpAny_bind fin))
        | exact wpAny_bind fin
  · cases f with
    | next =>
      obtain ⟨σ', H', J', q⟩ := hsp
      exact wpAny_execs_nil ⟨σ', H', J'.ofTry ok, q⟩
    | brk =>
      obtain ⟨σ', H', J', q⟩ := hsp
      exact ⟨σ', H', J'.ofTry ok, q⟩
    | cont =>
      obtain ⟨σ', H', J', q⟩ := hsp
      exact ⟨σ', H', J'.ofTry ok, q⟩
    | ret u =>
      obtain ⟨v, σ', H', J', r, q⟩ := hsp
      exact ⟨v, σ', H', J'.ofTry ok, r, q⟩
end
end L2
set_option maxRecDepth 100000
namespace L2
open PySem PySem.Spec PyProof.Rows
section
variable {X : Cx} {CX : CXT} {k : Nat} {f : Addr} {fd : FuncData} {ps : List Str} {sp : Sp} {E : St → XK} {x : Str} {p pos : Pos} {e : Expr} {es : List Expr} {t : TA}
theorem runGS {pins : List (Addr × Obj)} {σ : St} {H : Hp} {s : Shared} {Q : VK} {us : List Value} {kw : List (Str × Value)} {vs : List V} {ws : List Value} (F : Pz.FnG X.prog X.w X.K X.mg X.base CX k f fd ps sp) (hg : X.A.guards = some []) (hr : Room k X.A) (hb : BindsTo s fd ⟨us, kw⟩ (ps.zip ws)) (hx : PassesAt CX X σ (E σ))
    (I : Inv X pins σ H s) (r : Vals vs ws) (h : sp vs H Q (E σ)) : wpAny (model X.prog X.w) X.A (call (.ref f) us kw) (EP X pins σ Q) X.xe s := by
  apply wpAny_call
  refine codeAny_mono (F.go X.A hg hr X.stack s H I.env0 ⟨us, kw⟩ ws hb vs Q (E σ) r h) ?_
  rintro (er | fl) s' q
  · exact hx pins H s er s' I q
  · rcases fl with _ | _ | _ | u
    · exact q.elim
    · exact q.elim
    · exact q.elim
    · exact I.after q
variable {kws : List Keyword} {tk : TA} {n : Nat} {ks : List Str} {g : ∀ {α : Type}, List α → List α → List α}
def tCallWS (n m : Nat) (sp : Sp) (g : ∀ {α : Type}, List α → List α → List α) (E : St → XK) (t tk : TA) : TE := fun σ H Q => t σ H fun vs H1 => tk σ H1 fun zs H2 => vs.length = n ∧ zs.length = m ∧ sp (g vs zs) H2 Q (E σ)
end
structure XcF (K : PySem.W.Frag) (C : Addr) : Prop where
  cl : (PySem.W.clsIn K C).isSome = true
  ga : PySem.W.findIn K (.ref C) "__getattribute__" = some (some (.builtin "BaseException.__getattribute__"))
  gg : PySem.W.findIn K (.ref C) "__getattr__" = some none
  exC : PySem.W.subIn K (.ref C) (.type "BaseException") = some true
  cc : PySem.W.findIn K (.ref C) "__class__" = some (some (.builtin "object.__class__"))
  gt : PySem.W.specialIn K (.builtin "object.__class__") "__get__" = some (some (.builtin "getset_descriptor.__get__"))
  tk : PySem.W.takesIn K (.builtin "object.__class__") = some true
  ob : PySem.W.mroIn K C (.type "object") = some true
  hd : PySem.W.hasDictIn K C = true
def ExAt (H : Hp) (a C : Addr) (d : Option Addr) : Prop := H a = some (ExO (.ref C) d a) ∧ ∀ dx, d = some dx → ∃ fs, H dx = some (.xd fs)
theorem ExAt.inst {X : Cx} {pins : List (Addr × Obj)} {σ : St} {H : Hp} {s : Shared} {a C : Addr} {d : Option Addr} (I : Inv X pins σ H s) (h : ExAt H a C d) : ∃ ox od, PySem.W.InstAt s.heap a ox C od ∧ (∀ dx, d = some dx → ∃ ob, od = some ob ∧ s.heap.get? dx = some ob) := by
  obtain ⟨⟨oe, vs, he, hz, hd⟩, _⟩ := (show ObjOk X.prog X.w H s.heap a (ExO (.ref C) d a) from I.hok a _ h.1)
  have hn : PySem.W.notCls oe = true := by unfold PySem.W.notCls; rw [hd] <;> rfl
  cases d with
  | none => exact ⟨oe, none, ⟨he, hz.1, hn, by rw [hz.2]; trivial⟩, fun dx e => by cases e⟩
  | some dx =>
    obtain ⟨fs, hf⟩ := h.2 dx rfl
    obtain ⟨ob, ho⟩ := objOk_get (I.hok dx _ hf)
    exact ⟨oe, some ob, ⟨he, hz.1, hn, by rw [hz.2]; exact ho⟩, fun dx' e => by cases e; exact ⟨ob, rfl, ho⟩⟩
def rIsE (K : PySem.W.Frag) : List V → Hp → VK → Prop := fun xs H Q => ∃ (a C : Addr) (d : Option Addr) (c : V) (b : Bool), xs = [.ref a, c] ∧ ExAt H a C d ∧ XcF K C ∧
  ((∃ u, L2.ClsV c u ∧ PySem.W.kitOne K (.ref C) u = some b) ∨ ∃ (tp : Addr) (cs : List V) (us : List Value), c = .ref tp ∧ H tp = some (.tup cs) ∧ Paired L2.ClsV cs us ∧ PySem.W.kitAny K (.ref C) us = some b) ∧ Q (.bl b) H
theorem call_isE {X : Cx} : CallR X (.builtin "isinstance") (rIsE X.K) := by
  intro pins s σ H xs us Q I r h
  obtain ⟨a, C, d, c, b, rfl, ha, hc, hk, q⟩ := h
  obtain ⟨u1, u2, rfl, r1, r2⟩ := vals2 r
  obtain rfl : u1 = Value.ref a := r1
  obtain ⟨ox, od, hI, _⟩ := ha.inst I
  have Z := PySem.W.kitx_exc (x := a) (ox := ox) (od := od) hc.cl hc.ga hc.gg hc.exC hc.cc hc.gt hc.tk hc.ob
  rcases hk with ⟨u, k, e⟩ | ⟨tp, cs, ws, rfl, hT, k, e⟩
  · obtain rfl := k.eq r2
    exact PySem.W.kia_one Z I.kIn hI e (fun z => by cases z) fun tk => ⟨.bl b, H, I.tok tk, rfl, q⟩
  · cases (show u2 = Value.ref tp from r2)
    obtain ⟨_, its, rv, o, h1, h2, n, h3⟩ := (show ObjOk X.prog X.w H s.heap tp (.tup cs) from I.hok tp _ hT)
    have e3 := L2.ClsV.all k rv
    subst e3
    obtain ⟨c1, d1, dt, sl⟩ := o
    dsimp only at h2 h3
    subst h2 h3
    exact PySem.W.kia_tup Z I.kIn hI h1 e (fun z => by cases z) fun tk => ⟨.bl b, H, I.tok tk, rfl, q⟩
def tXfH (K : PySem.W.Frag) (f : Str) (te : TE) : TE := fun σ H Q => te σ H fun x H1 => ∃ (a C dx : Addr) (fs : List (Str × V)) (v : V), x = .ref a ∧ ExAt H1 a C (some dx) ∧ H1 dx = some (.xd fs) ∧ XcF K C ∧ PySem.W.findIn K (.ref C) f = some none ∧ fs.lookup f = some v ∧ Q v H1
theorem pe_xfH {X : Cx} {e : Expr} {te : TE} {pos : Pos} {n : Str} (he : PE X e te) (hb : attributeBase e n X.env (eval e X.env) = eval e X.env := by rfl) : PE X (.Attribute e n pos) (tXfH X.K n te) := by
  refine ⟨fun pins s σ H Q I h => ?_⟩
  refine attr_of hb (thn (he.run pins s σ H _ I h) fun u s1 hh => ?_)
  obtain ⟨x, H1, I1, rx, a, C, dx, fs, v, ex, ha, ea, T, hno, l, q⟩ := hh
  subst ex
  obtain rfl : u = Value.ref a := rx
  obtain ⟨ox, od, hI, hod⟩ := ha.inst I1
  obtain ⟨ob, rfl, hob⟩ := hod dx rfl
  obtain ⟨mA, hns, hr⟩ := (show ObjOk X.prog X.w H1 s1.heap dx (.xd fs) from I1.hok dx _ ea)
  obtain ⟨od', ho, hl⟩ := lookIn_ns hns
  rw [hob] at ho; cases ho
  obtain ⟨u, hu, ru⟩ := RelO.some_of (v := v) (o := mA n) (by rw [← l]; exact hr n)
  exact HandSPX.exc_get I1.kIn hI T.ga T.gg T.exC (PySem.W.findObj_own T.hd hno rfl (by rw [hl, hu])) (handed_of ru) ⟨v, H1, I1.tok _, ru, q⟩
end L2
set_option maxRecDepth 100000
namespace Pz
open PySem PySem.Spec PyProof.Rows L2 TL
variable [PenC]
abbrev FDX := List Sl → (PyData → Prop) → (Str → List (Str × PyData) → Prop) → Prop
structure FOkX (f : FDX) (n : Nat) : Prop where
  dat : ∀ ss k e, f ss k e → ss.length = n ∧ allD ss = true
  mono : ∀ ss k k' e e', (∀ d, k d → k' d) → (∀ c fs, e c fs → e' c fs) → f ss k e → f ss k' e'
def spX (f : FDX) : DSp := fun ss cs Q Ed => cs = [] ∧ f ss (fun d => Q (.d d) []) fun c fs => Ed c fs []
section
variable {f : FDX} {n m : Nat} {N : List Str} {τ : DS}
theorem lX (ok : FOkX f n) : ∀ ss cs Q Ed, spX f ss cs Q Ed → ss.length = n := fun ss cs Q Ed h => (ok.dat _ _ _ h.2).1
theorem locX (ok : FOkX f n) {ss : List Sl} {st : Sto} {Q : DK} {Ed : DXF} (h : f ss (fun d => Q (.d d) st) fun c fs => Ed c fs st) : locCall (spX f) ss st Q Ed := by
  have h1 := (ok.dat _ _ _ h).2
  simp only [locCall, hsOf_allD h1, getAll, locS_allD h1, spX]
  refine ⟨fun c m => (by cases m), trivial, ok.mono _ _ _ _ _ (fun d q => ⟨fun c m => (by cases m), ?_⟩) (fun c fs q => ⟨fun c m => (by cases m), ?_⟩) h⟩
  · simpa [gloS, putAll] using q
  · simpa [putAll] using q
abbrev endX (Qd : DK) (Ed : DXF) : DEnds := ⟨fun _ st => Ret 0 (.d .none) st Qd, fun s st => Ret 0 s st Qd, fun c fs _ _ => Ed c fs [], fun _ _ => False, fun _ _ => False⟩
theorem hX (h : ∀ (ss : List Sl) (Qd : DK) (Ed : DXF), (f ss (fun d => Qd (.d d) []) fun c fs => Ed c fs []) → τ (endX Qd Ed) (startS N ss) []) :
    ∀ (ss : List Sl) (cs : Sto) (Qd : DK) (Ed : DXF), spX f ss cs Qd Ed → ss.length = m → cs.length = 0 ∧ τ (endX Qd Ed) (startS N ss) cs := by
  rintro ss cs Qd Ed ⟨rfl, h2⟩ _
  exact ⟨rfl, h ss Qd Ed h2⟩
end
theorem xd_cut {K : Frag} {Z Z' : Zs} (hH : Z'.H = Z.H) (hW : ∀ a, Z'.W a → Z.W a) {fs : List (Str × PyData)} : ∀ {d : Option Addr}, XdOk K Z fs d → XdOk K Z' fs d
  | none, h => h
  | some a, h => by
    obtain ⟨nw, us, e, e2, q⟩ := h
    have q' := ImAll.tr (Stay.less hW) (show Pz.ImAll K Z.W Z.H _ _ from q)
    rw [← hH] at e q'
    exact ⟨fun w => nw (hW _ w), us, e, e2, q'⟩
section
variable {P : Program} {w : World} {K : Frag} {mg : Str → Option Value} {base : Heap} {k : Nat} {f : Addr} {fd : FuncData} {ps N : List Str} {dsp : DSp} {x qual : Str} {st : Stmt}
theorem ends_retX {Z0 Zc : Zs} {Qd : DK} {Q : VK} {Ed : DXF} {E : XK} (hn : Z0.st.length = 0) (ok0 : Ok K Z0) (k : KOk K Z0 Qd Q) (kx : KXF K Z0 Ed E) :
    EndsOk K (fun cls d _ H => E cls d H) Z0 Zc (endX Qd Ed) { nx := fun _ H' => Q .non H', rt := Q } where
  nx := fun Z sl σ l _ ok so h => ret_ok hn l ok (v := .non) (s := .d .none) Im.non h k
  rt := fun Z v s l ok r h => ret_ok hn l ok r h k
  ex := fun Z' σ sl c x d fs l _ ok so xd cv h => by
    have e0 : Z0.φ = [] := List.length_eq_zero_iff.mp (by rw [ok0.len]; exact hn)
    have hW : ∀ a, (Zs.mk [] [] Z'.H Z'.F).W a → Z'.W a := fun a w => by
      rcases w with ⟨i, c, e1, _⟩ | w
      · cases (List.getElem?_nil ▸ e1)
      · exact .inr w
    refine kx (Zs.mk [] [] Z'.H Z'.F) c x d fs ⟨⟨[], by rw [e0]; rfl, fun _ h => by cases h⟩, l.len, fun h c e => ?_, l.frm, l.fgn, l.dom⟩ ⟨rfl, List.nodup_nil, fun h a c e1 _ => ?_, ok.fo, fun a m => (by cases m), ok.tb.less hW⟩ (xd_cut (Z := Z') (Z' := Zs.mk [] [] Z'.H Z'.F) rfl hW xd) cv h
    · have := (List.getElem?_eq_some_iff.mp e).1
      omega
    · cases (List.getElem?_nil ▸ e1)
  bk := fun _ _ _ _ _ _ _ h => h
  ct := fun _ _ _ _ _ _ _ h => h
theorem FnD.ofX (F : Fun K x qual st f fd) (S : FnScope N ps (defScope st)) (τ : DS)
    (hb : ∀ (cdv : Value) (A : Around) (outer : List Env) (s : Shared) (H : Hp) (E : XK) (Z0 : Zs), A.guards = some [] → Room k (A.deeper (envOfC qual (defScope st) s.heap.objs.size f cdv)) → Z0.st.length = 0 →
      Takes (cxOf (L2.CX P w) P w K mg base N qual (defScope st) f cdv A outer s H E) (fun cls d _ H => E cls d H) →
      DSs (cxOf (L2.CX P w) P w K mg base N qual (defScope st) f cdv A outer s H E) (fun cls d _ H => E cls d H) Z0 (defBody st) τ)
    (hw : ∀ (ss : List Sl) (cs : Sto) (Qd : DK) (Ed : DXF), dsp ss cs Qd Ed → ss.length = ps.length → cs.length = 0 ∧ τ (endX Qd Ed) (startS N ss) cs) :
    FnD P w K mg base (L2.CX P w) (k + 1) f fd ps dsp := by
  refine FnG.of F S (fun vs H Q E ⟨Z, ss, Qd, Ed, _, _, ra, hl, _⟩ => ra.length.trans hl) fun cdv A outer s H vs Q E hg hr ⟨Z, ss, Qd, Ed, e, ok, ra, hl, hd, kQ, kE⟩ => ?_
  obtain ⟨hn, q⟩ := hw ss Z.st Qd Ed hd hl
  refine ⟨_, (hb cdv A outer s H E Z hg hr hn (takes_of rfl rfl rfl rfl)).run, ?_⟩
  exact ⟨Z, startS N ss, _, e, .refl ok, ok, startS_ok ra, q, ends_retX hn ok kQ kE⟩
end
section
variable {X : Cx} {E : WXs} {Z0 : Zs} {k n m : Nat} {fa : Addr} {fd : FuncData} {ps ks : List Str} {f : FDX} {x : Str} {p pos : Pos} {e : Expr} {es : List Expr} {t tkw : DA} {kws : List Keyword}
def wCallX (f : FDX) (t : DA) : DE := fun Ed sl st Q => t Ed sl st fun ss st => f ss (fun d => Q (.d d) st) fun c fs => Ed c fs sl st
theorem wCallX_ap {Ed : DX} {sl : Sls} {st : Sto} {Q : DK} : wCallX f t Ed sl st Q = (t Ed sl st fun ss st => f ss (fun d => Q (.d d) st) fun c fs => Ed c fs sl st) := rfl
theorem kxf_of {K : Frag} {Z : Zs} {σ : L2.St} {sl : Sls} {Ed : DX} (so : SlOk K Z σ sl) (kx : KXOk K Z Ed E) : KXF K Z (fun c fs st => Ed c fs sl st) (WE E σ) :=
  fun Z' c x d fs l ok xd cv h => kx Z' σ sl c x d fs l ok (so.tr l) xd cv h
def wCallWX (n m : Nat) (f : FDX) (g : ∀ {α : Type}, List α → List α → List α) (t tk : DA) : DE := fun Ed sl st Q => t Ed sl st fun ss st => tk Ed sl st fun zs st => ss.length = n ∧ zs.length = m ∧ f (g ss zs) (fun d => Q (.d d) st) fun c fs => Ed c fs sl st
theorem wCallWX_ap {g : ∀ {α : Type}, List α → List α → List α} {Ed : DX} {sl : Sls} {st : Sto} {Q : DK} : wCallWX n m f g t tkw Ed sl st Q = (t Ed sl st fun ss st => tkw Ed sl st fun zs st => ss.length = n ∧ zs.length = m ∧ f (g ss zs) (fun d => Q (.d d) st) fun c fs => Ed c fs sl st) := rfl
variable {gg : ∀ {α : Type}, List α → List α → List α}
end
end Pz
set_option maxRecDepth 100000
namespace Pz
open PySem PySem.Spec PyProof.Rows L2 TL
variable [PenC]
def clsUp : List (Str × Str) := [("PrismError", "ValueError"), ("InvalidText", "PrismError"), ("UnbalancedBracket", "PrismError"), ("IndentedStart", "PrismError"), ("BadDedent", "PrismError"), ("InconsistentTabs", "PrismError"), ("NoIndent", "PrismError"), ("Unreachable", "PrismError"), ("InvalidReading", "PrismError"), ("RootConflict", "PrismError"), ("InvalidTokens", "PrismError"), ("InvalidOperation", "PrismError"), ("InvalidNotation", "PrismError"), ("UnknownCommand", "PrismError"),
  ("TooLong", "OverflowError"), ("TooMany", "OverflowError"), ("NoVariant", "IndexError"), ("NoLine", "IndexError"), ("Busy", "RuntimeError"), ("NothingToUndo", "RuntimeError"), ("NothingToRedo", "RuntimeError")]
def subN : Nat → Str → Str → Bool
  | 0, c, y => c == y
  | n + 1, c, y => c == y || match clsUp.lookup c with
    | some d => subN n d y
    | none => false
def subB (c y : Str) : Bool := subN 3 c y
def NmV (K : Frag) (y : Str) (u : Value) : Prop := ClsV K y u ∨ ∃ n : String, y = Str.ofString n ∧ PySem.W.nsIn K mainGlobals y = some none ∧ u = .type n
def NmF (K : Frag) (mg : Str → Option Value) (y : Str) : Prop := (∃ C, mg y = some (.ref C) ∧ ClsV K y (.ref C)) ∨ ∃ n : String, y = Str.ofString n ∧ mg y = none ∧ bootBuiltins y = some (.type n) ∧ PySem.W.nsIn K mainGlobals y = some none
structure XRel (K : Frag) (mg : Str → Option Value) (L M F : List Str) : Prop where
  own : ∀ c ∈ L, ∀ cv, ClsV K c cv → ∃ C, cv = .ref C ∧ XcF K C
  rel : ∀ c ∈ L, ∀ cv, ClsV K c cv → ∀ y ∈ M, ∀ u, NmV K y u → PySem.W.kitOne K cv u = some (subB c y) ∧ PySem.W.exmOne K cv u = some (subB c y)
  nms : ∀ y ∈ M, NmF K mg y
  fld : ∀ c ∈ L, ∀ cv, ClsV K c cv → ∀ f ∈ F, PySem.W.findIn K cv f = some none
section
variable {K : Frag} {mg : Str → Option Value} {L M F : List Str}
theorem XRel.exm (R : XRel K mg L M F) {c : Str} (hc : c ∈ L) {cv : Value} (h : ClsV K c cv) : ∀ {ys : List Str} {us : List Value}, Paired (NmV K) ys us → (∀ y ∈ ys, y ∈ M) → PySem.W.exmAny K cv us = some (ys.any (subB c))
  | _, _, .nil, _ => rfl
  | _, _, .cons (a := y) (b := u) n r, hm => by
    unfold PySem.W.exmAny
    rw [(R.rel c hc cv h y (hm y List.mem_cons_self) u n).2, R.exm hc h r fun z m => hm z (List.mem_cons_of_mem _ m)]
    rfl
end
section
variable {X : Cx} {E : WXs} {Z0 : Zs} {L M F : List Str} {x f : Str} {p pos pos' : Pos} {a e : Expr} {t : DA} {te : DE} {k : Nat}
def wRaise1 (x f : Str) (t : DA) : DS := fun D sl st => t D.ex sl st fun ss st => match ss with
  | [.d y] => D.ex x [(f, y)] sl st
  | _ => False
theorem wRaise1_ap {nx bk ct : Sls → Sto → Prop} {rt : DK} {ex : DX} {sl : Sls} {st : Sto} : wRaise1 x f t ⟨nx, rt, ex, bk, ct⟩ sl st = (t ex sl st fun ss st => match ss with
  | [.d y] => ex x [(f, y)] sl st
  | _ => False) := rfl
def Mk1 (K : Frag) (mg : Str → Option Value) (x f : Str) : Prop := ∃ (C fI : Addr) (B newId initId : String) (bmB : List Value) (qn : Str), mg x = some (.ref C) ∧ ClsV K x (.ref C) ∧ ExcBaseFacts B newId initId bmB ∧ PySem.Xc.InitRun B newId initId bmB f qn K C fI ∧ PySem.Xc.Txt B newId initId bmB f qn K C fI
theorem ds_raise1 (f : Str) (hc : X.calm = true) (tk : Takes X E) (h1 : Mk1 X.K X.mg x f) (hr : Room k X.A) (hg : Gl X x) (ha : DAs X E [a] t)
    (hdb : (x == ("__debug__" : Str)) = false := by decide) (he : starEach (a :: []) X.env = (false, eval a X.env) :: starEach [] X.env := by rfl) (hpl : (backTo pos (starEach [] X.env)).any (·.1) = false := by rfl) :
    DSt X E Z0 (.Raise (some (.Call (.Name x p) [a] [] pos)) none pos') (wRaise1 x f t) := by
  obtain ⟨C, fI, B, newId, initId, bmB, qn, gC, cv, FB, IR, T⟩ := h1
  refine ⟨psI (ps_raise hc tk (pmk1 FB IR T gC hr ha.run hg hdb he hpl)) fun D σ H ⟨Z, sl, Dd, h, l0, ok, so, w, en⟩ => ?_⟩
  refine ⟨Z, sl, _, Dd.ex, h, ok, so, w, fun Z1 vs ss l1 ok1 r1 w1 => ?_, en.ex.le l0⟩
  dsimp only at w1
  split at w1
  · rename_i y
    rcases r1 with _ | ⟨ry, rn⟩
    cases rn
    rename_i v
    refine ⟨v, rfl, fun d nd => ?_⟩
    have l2 := ok1.leNew (o := .xd [(f, v)]) nd
    have ry' : (Z1.new d (.xd [(f, v)])).Im X.K v y := Rp.tr l2 (s := .d y) ry
    exact en.ex (Z1.new d (.xd [(f, v)])) σ sl (.ref C) x (some d) [(f, y)] ((l0.trans l1).trans l2) (l1.trans l2).stay (ok1.new nd) ((so.tr l1).tr l2)
      ⟨fun w => ok1.nw nd w, [(f, v)], upd_same, rfl, .cons ry' .nil⟩ cv w1
  · exact w1.elim
def Mk0 (K : Frag) (mg : Str → Option Value) (x : Str) : Prop := ∃ (C : Addr) (B newId initId : String) (bmB : List Value), mg x = some (.ref C) ∧ ClsV K x (.ref C) ∧ ExcBaseFacts B newId initId bmB ∧ PySem.W.excIn K C bmB newId = true ∧ PySem.W.keepIn K (.ref C) = true ∧ PySem.W.subIn K (.ref C) (.type "BaseException") = some true ∧ PySem.W.typeIn K (.ref C) = some (.type "type")
def wRaise0 (x : Str) : DS := fun D sl st => D.ex x [] sl st
theorem wRaise0_ap {nx bk ct : Sls → Sto → Prop} {rt : DK} {ex : DX} {sl : Sls} {st : Sto} : wRaise0 x ⟨nx, rt, ex, bk, ct⟩ sl st = ex x [] sl st := rfl
theorem nm_val {y : Str} (h : NmF X.K X.mg y) (hg : Gl X y) (hn : y ≠ "__name__") (hd : (y == ("__debug__" : Str)) = false) : ∃ u c, NmV X.K y u ∧ L2.ClsV c u ∧ Names X y u ∧ PE X (.Name y p) (tC c) := by
  rcases h with ⟨C, h1, h2⟩ | ⟨n, rfl, h1, h2, h3⟩
  · exact ⟨.ref C, .ref C, .inl h2, .own C, ⟨hg, hd, .inl h1⟩, pe_glob hg h1 rfl hd⟩
  · exact ⟨.type n, .ty n, .inr ⟨n, rfl, h3, rfl⟩, .ty n, ⟨hg, hd, .inr ⟨h1, h2, hn⟩⟩, pe_bltn hg h1 h2 rfl hn hd⟩
inductive NmsL (X : Cx) (M : List Str) : List Expr → List Str → Prop
  | nil : NmsL X M [] []
  | cons {y : Str} {p : Pos} {es : List Expr} {ys : List Str} (hm : y ∈ M) (r : NmsL X M es ys) (hg : Gl X y := by rfl) (hn : y ≠ "__name__" := by decide) (hd : (y == ("__debug__" : Str)) = false := by decide) (hs : starEach (.Name y p :: es) X.env = (false, eval (.Name y p) X.env) :: starEach es X.env := by rfl) : NmsL X M (.Name y p :: es) (y :: ys)
theorem NmsL.mem {es : List Expr} {ys : List Str} (h : NmsL X M es ys) : ∀ y ∈ ys, y ∈ M := by
  induction h with
  | nil => intro y m; cases m
  | cons hm r _ _ _ _ ih => exact fun y m => (List.mem_cons.mp m).elim (fun e => e ▸ hm) (ih y)
theorem NmsL.val (R : XRel X.K X.mg L M F) {es : List Expr} {ys : List Str} (h : NmsL X M es ys) : ∃ us cs, Paired (NmV X.K) ys us ∧ Paired L2.ClsV cs us ∧ NmL X es us ∧ ∃ ta : TA, PA X es ta ∧ ∀ σ H (Q : List V → Hp → Prop), Q cs H → ta σ H Q := by
  induction h with
  | nil => exact ⟨[], [], .nil, .nil, .nil, _, pa_nil, fun σ H Q q => q⟩
  | @cons y p es ys hm r hg hn hd hs ih =>
    obtain ⟨us, cs, h1, h2, h3, ta, h4, h5⟩ := ih
    obtain ⟨u, c, q1, q2, q3, q4⟩ := nm_val (p := p) (R.nms y hm) hg hn hd
    exact ⟨u :: us, c :: cs, .cons q1 h1, .cons q2 h2, .cons q3 h3 hs, _, pa_cons q4 h4 hs, fun σ H Q q => h5 σ H _ q⟩
def NmsT (X : Cx) (te : Expr) (M ys : List Str) : Prop := (∀ y ∈ ys, y ∈ M) ∧ ∀ {L F : List Str}, XRel X.K X.mg L M F → ∃ us, Paired (NmV X.K) ys us ∧ ClTest X te us
theorem paired_len {α β : Type} {R : α → β → Prop} : ∀ {as : List α} {bs : List β}, Paired R as bs → as.length = bs.length
  | _, _, .nil => rfl
  | _, _, .cons _ r => by rw [List.length_cons, List.length_cons, paired_len r]
theorem nt_tup {es : List Expr} {ys : List Str} {kk : Nat} (h : NmsL X M es ys) (hl : ys.length ≤ 100 := by decide) : NmsT X (.Tuple es kk p) M ys :=
  ⟨h.mem, fun R => by
    obtain ⟨us, cs, h1, h2, h3, _⟩ := h.val R
    exact ⟨us, h1, clt_tup h3 (by rw [← paired_len h1, sizeLine_eq]; omega)⟩⟩
def wTry (L ys : List Str) (i j : Nat) (u : DS) : DS := fun D sl st => u ⟨D.nx, D.rt, fun c fs sl' st' => c ∈ L ∧ if ys.any (subB c) = true then D.nx (((sl'.set i (some (.o st'.length))).set j (some (.o st'.length))).set i none) (st' ++ [.exc c fs]) else D.ex c fs sl' st', D.bk, D.ct⟩ sl st
theorem wTry_ap {ys : List Str} {i j : Nat} {u : DS} {nx bk ct : Sls → Sto → Prop} {rt : DK} {ex : DX} {sl : Sls} {st : Sto} : wTry L ys i j u ⟨nx, rt, ex, bk, ct⟩ sl st = u ⟨nx, rt, fun c fs sl' st' => c ∈ L ∧ if ys.any (subB c) = true then nx (((sl'.set i (some (.o st'.length))).set j (some (.o st'.length))).set i none) (st' ++ [.exc c fs]) else ex c fs sl' st', bk, ct⟩ sl st := rfl
theorem SlOk.setN {K : Frag} {Z : Zs} {σ : L2.St} {sl : Sls} (h : SlOk K Z σ sl) (i : Nat) : SlOk K Z (σ.set i none) (sl.set i none) := by
  refine ⟨by simpa using h.len, fun j t e => ?_⟩
  by_cases hj : i = j
  · subst hj
    rcases Nat.lt_or_ge i sl.length with q | q
    · rw [List.getElem?_set_self q] at e; cases e
    · rw [List.getElem?_eq_none (by simpa using q)] at e; cases e
  · rw [List.getElem?_set_ne hj] at e
    obtain ⟨u, q, r'⟩ := h.has j t e
    exact ⟨u, by rw [List.getElem?_set_ne hj]; exact q, r'⟩
theorem ds_try {n : Str} {texp : Expr} {ys : List Str} {i j : Nat} {body : List Stmt} {b₀ : Stmt} {u : DS} (R : XRel X.K X.mg L M F) (tk : Takes X E) (hN : X.N.Nodup) (hT : NmsT X texp M ys)
    (hb : ∀ (W : WX) (pn : List (Addr × Obj)) (xe : Value → Shared → Prop), Takes (X.tr pn xe) W → DSs (X.tr pn xe) W Z0 body u)
    (hsu : ∀ (a : Addr) (oe : Obj) (pn : List (Addr × Obj)), PSs (X.suite a ((a, oe) :: pn)) [b₀] (tAsg (tVar i) (gName j)))
    (hs : X.stack = X.env :: X.outer := by rfl) (hf : X.env.frame = some X.env.locals := by rfl) (hex : X.ex = [] := by rfl) (hi : X.N[i]? = some n := by rfl) (hln : X.env.kindOf n = some .local := by rfl) :
    DSt X E Z0 (.Try body [.ExceptHandler (some texp) (some n) [b₀] pos'] [] [] pos) (wTry L ys i j u) := by
  obtain ⟨hM, hT⟩ := hT
  obtain ⟨us, hp, hc⟩ := hT R
  refine ⟨psI (ps_try_keep (tb := fun W => upS X.K W Z0 u) hs hf hex hN hi hln hc tk (fun W pn xe tk' _ => (hb W pn xe tk').run) hsu) fun D σ H ⟨Z, sl, Dd, h, l0, ok, so, w, en⟩ => ?_⟩
  refine ⟨Z, sl, _, h, l0, ok, so, w, ⟨en.nx, en.rt, fun Z' σ' sl' c x d fs l0' k' ok' so' xd cv hx => ?_, en.bk, en.ct⟩⟩
  obtain ⟨hL, hx⟩ := hx
  obtain ⟨C, rfl, xf⟩ := R.own x hL c cv
  refine ⟨_, R.exm hL cv hp hM, fun hb a na => ?_, fun hb => ?_⟩
  · rw [if_pos hb] at hx
    have l := ok'.leOwn (o := ExO (.ref C) d a) (ct := .exc x fs) na
    have okN : Ok X.K (Z'.own a (ExO (.ref C) d a) (.exc x fs)) := ok'.own na ⟨.ref C, d, cv, upd_same, xd.tr l.stay⟩
    have rA : Rp X.K (Z'.own a (ExO (.ref C) d a) (.exc x fs)) (.ref a) (.o Z'.st.length) := by
      refine ⟨a, .exc x fs, rfl, ?_, ?_, trivial⟩
      · show (Z'.φ ++ [a])[Z'.st.length]? = _
        rw [← ok'.len, List.getElem?_append_right (Nat.le_refl _)]
        simp
      · show (Z'.st ++ [Ct.exc x fs])[Z'.st.length]? = _
        rw [List.getElem?_append_right (Nat.le_refl _)]
        simp
    exact en.nx (Z'.own a (ExO (.ref C) d a) (.exc x fs)) _ _ (l0'.trans l) (k'.trans l.stay) okN ((((so'.tr l).set i rA).set j rA).setN i) hx
  · rw [if_neg (by rw [hb]; decide)] at hx
    exact en.ex Z' σ' sl' (.ref C) x d fs l0' k' ok' so' xd cv hx
def excOf (st : Sto) : Sl → Option (Str × List (Str × PyData))
  | .o h => match st[h]? with
    | some (.exc c fs) => some (c, fs)
    | _ => none
  | _ => none
theorem excOf_o {st : Sto} {h : Nat} : excOf st (.o h) = match st[h]? with
    | some (.exc c fs) => some (c, fs)
    | _ => none := rfl
theorem excOf_ok {Z : Zs} (ok : Ok X.K Z) {v : V} {s : Sl} {c : Str} {fs : List (Str × PyData)} (r : Rp X.K Z v s) (e : excOf Z.st s = some (c, fs)) : ∃ a cv d, v = .ref a ∧ ClsV X.K c cv ∧ Z.H a = some (ExO cv d a) ∧ XcOk X.K Z fs d := by
  cases s with
  | o h =>
    rw [excOf_o] at e
    obtain ⟨a, ct, ev, e1, e2, e3⟩ := r
    rw [e2] at e
    cases ct with
    | exc c' fs' =>
      cases e
      obtain ⟨cv, d, h1, h2, h3⟩ := ok.ct h a _ e1 e2
      exact ⟨a, cv, d, ev, h1, h2, h3⟩
    | _ => cases e
  | _ => cases e
theorem exAt_of {Z : Zs} {a C : Addr} {d : Option Addr} {fs : List (Str × PyData)} (h : Z.H a = some (ExO (.ref C) d a)) (x : XcOk X.K Z fs d) : ExAt Z.H a C d := ⟨h, fun dx e => by
  subst e
  obtain ⟨_, us, q, _⟩ := x
  exact ⟨us, q⟩⟩
def wIsE (L ys : List Str) (te : DE) : DE := fun Ed sl st Q => te Ed sl st fun s st => match excOf st s with
  | some (c, _) => c ∈ L ∧ Q (.d (.bool (ys.any (subB c)))) st
  | none => False
theorem wIsE_ap {ys : List Str} {Ed : DX} {sl : Sls} {st : Sto} {Q : DK} : wIsE L ys te Ed sl st Q = (te Ed sl st fun s st => match excOf st s with
  | some (c, _) => c ∈ L ∧ Q (.d (.bool (ys.any (subB c)))) st
  | none => False) := rfl
theorem de_isE1 {y : Str} {p2 : Pos} (R : XRel X.K X.mg L M F) (he : DEx X E e te) (hy : y ∈ M) (hg : Gl X "isinstance") (hm : X.mg "isinstance" = none) (hv : bootBuiltins "isinstance" = some (.builtin "isinstance")) (hgy : Gl X y := by rfl) (hn : y ≠ "__name__" := by decide) (hd : (y == ("__debug__" : Str)) = false := by decide)
    (hs1 : starEach [e, .Name y p2] X.env = (false, eval e X.env) :: starEach [.Name y p2] X.env := by rfl) (hs2 : starEach [.Name y p2] X.env = (false, eval (.Name y p2) X.env) :: starEach [] X.env := by rfl) (hpl : (backTo pos (starEach [.Name y p2] X.env)).any (·.1) = false := by rfl) :
    DEx X E (.Call (.Name "isinstance" p) [e, .Name y p2] [] pos) (wIsE L [y] te) := by
  obtain ⟨u, c, q1, q2, q3, q4⟩ := nm_val (p := p2) (R.nms y hy) hgy hn hd
  refine ⟨peI (pe_callB call_isE hg hm hv (pa_cons he.run (pa_cons q4 pa_nil hs2) hs1) (by decide) (by decide) hs1 hpl) fun σ H Q ⟨Z, sl, Qd, Ed, h, ok, so, w, kq, kx⟩ => ?_⟩
  refine ⟨Z, sl, _, Ed, h, ok, so, w, fun Z1 v s l1 ok1 r1 w1 => ?_, kx⟩
  dsimp only at w1
  split at w1
  · rename_i c' fs ec
    obtain ⟨hL, w1⟩ := w1
    obtain ⟨a, cv, d, rfl, h1, h2, h3⟩ := excOf_ok ok1 r1 ec
    obtain ⟨C, rfl, xf⟩ := R.own c' hL cv h1
    refine ⟨a, C, d, c, _, rfl, exAt_of h2 h3, xf, .inl ⟨u, q2, ?_⟩, (kq.le l1).now ok1 (.bl _) w1⟩
    rw [(R.rel c' hL _ h1 y hy u q1).1, List.any_cons, List.any_nil, Bool.or_false]
  · exact w1.elim
def wXf (L : List Str) (f : Str) (te : DE) : DE := fun Ed sl st Q => te Ed sl st fun s st => match excOf st s with
  | some (c, fs) => c ∈ L ∧ ∃ d, fs.lookup f = some d ∧ Q (.d d) st
  | none => False
theorem wXf_ap {Ed : DX} {sl : Sls} {st : Sto} {Q : DK} : wXf L f te Ed sl st Q = (te Ed sl st fun s st => match excOf st s with
  | some (c, fs) => c ∈ L ∧ ∃ d, fs.lookup f = some d ∧ Q (.d d) st
  | none => False) := rfl
theorem lookup_im {K : Frag} {W : Addr → Prop} {H : Hp} {f : Str} {d : PyData} : ∀ {us : List (Str × V)} {fs : List (Str × PyData)}, us.map (·.1) = fs.map (·.1) → ImAll K W H (us.map (·.2)) (fs.map (·.2)) → fs.lookup f = some d → ∃ v, us.lookup f = some v ∧ Im K W H v d
  | [], [], _, _, e => by cases e
  | [], _ :: _, e, _, _ => by cases e
  | _ :: _, [], e, _, _ => by cases e
  | (g, v) :: us, (g', d') :: fs, e, q, h => by
    simp only [List.map_cons, List.cons.injEq] at e
    obtain ⟨rfl, e⟩ := e
    rcases q with _ | ⟨q1, q2⟩
    rw [List.lookup_cons] at h ⊢
    cases hb : f == g with
    | true =>
      rw [hb] at h
      cases h
      exact ⟨v, rfl, q1⟩
    | false =>
      rw [hb] at h
      exact lookup_im e q2 h
theorem de_xf (f : Str) (R : XRel X.K X.mg L M F) (hf : f ∈ F) (he : DEx X E e te) (hb : attributeBase e f X.env (eval e X.env) = eval e X.env := by rfl) : DEx X E (.Attribute e f pos) (wXf L f te) := by
  refine ⟨peI (pe_xfH he.run hb) fun σ H Q ⟨Z, sl, Qd, Ed, h, ok, so, w, kq, kx⟩ => ?_⟩
  refine ⟨Z, sl, _, Ed, h, ok, so, w, fun Z1 v s l1 ok1 r1 w1 => ?_, kx⟩
  dsimp only at w1
  split at w1
  · rename_i c' fs ec
    obtain ⟨hL, d, hd, w1⟩ := w1
    obtain ⟨a, cv, dd, rfl, g1, g2, g3⟩ := excOf_ok ok1 r1 ec
    obtain ⟨C, rfl, xf⟩ := R.own c' hL cv g1
    cases dd with
    | none =>
      obtain rfl : fs = [] := g3
      cases hd
    | some dx =>
      have hE := exAt_of g2 g3
      obtain ⟨_, us, q1, q2, q3⟩ := g3
      obtain ⟨v', hv, iv⟩ := lookup_im q2 q3 hd
      exact ⟨a, C, dx, us, v', rfl, hE, q1, xf, R.fld c' hL _ g1 f hf, hv, (kq.le l1).now ok1 iv w1⟩
  · exact w1.elim
end
theorem is_some {α : Type} {o : Option α} {x : α} (h : o = some x) : o.isSome = true := by rw [h]; rfl
theorem ac {α : Type} {P : α → Prop} {a : α} {l : List α} (h : P a) (r : ∀ c ∈ l, P c) : ∀ c ∈ a :: l, P c := fun c m => (List.mem_cons.mp m).elim (fun e => e ▸ h) (r c)
theorem an {α : Type} {P : α → Prop} : ∀ c ∈ ([] : List α), P c := fun c m => by cases m
def NmK (K : Frag) (y : Str) : Prop := (∃ C, PySem.W.nsIn K mainGlobals y = some (some (.ref C))) ∨ ∃ n : String, y = Str.ofString n ∧ bootBuiltins y = some (.type n) ∧ PySem.W.nsIn K mainGlobals y = some none
structure XRelK (K : Frag) (L M F : List Str) : Prop where
  own : ∀ c ∈ L, ∀ cv, ClsV K c cv → ∃ C, cv = .ref C ∧ XcF K C
  rel : ∀ c ∈ L, ∀ cv, ClsV K c cv → ∀ y ∈ M, ∀ u, NmV K y u → PySem.W.kitOne K cv u = some (subB c y) ∧ PySem.W.exmOne K cv u = some (subB c y)
  nms : ∀ y ∈ M, NmK K y
  fld : ∀ c ∈ L, ∀ cv, ClsV K c cv → ∀ f ∈ F, PySem.W.findIn K cv f = some none
theorem XRelK.to {K : Frag} {h : Heap} {mg : Str → Option Value} {L M F : List Str} (R : XRelK K L M F) (X : K.In h) (G : h.Ns mainGlobals mg) : XRel K mg L M F :=
  ⟨R.own, R.rel, fun y m => by
    rcases R.nms y m with ⟨C, e⟩ | ⟨n, e1, e2, e3⟩
    · exact .inl ⟨C, PySem.W.mg_of X G e, e⟩
    · exact .inr ⟨n, e1, PySem.W.mg_none_of X G e3, e2, e3⟩, R.fld⟩
section
variable {K : Frag} {c y f : Str} {C D : Addr} {cv u : Value} {b : Bool}
theorem own_of (e : PySem.W.nsIn K mainGlobals c = some (some (.ref C))) (h : XcF K C) : ∀ cv, ClsV K c cv → ∃ C, cv = .ref C ∧ XcF K C := fun cv q => ⟨C, q.eq e, h⟩
theorem rel_own (e : PySem.W.nsIn K mainGlobals y = some (some (.ref D))) (h1 : PySem.W.kitOne K cv (.ref D) = some b) (h2 : PySem.W.exmOne K cv (.ref D) = some b) (hb : b = subB c y) : ∀ u, NmV K y u → PySem.W.kitOne K cv u = some (subB c y) ∧ PySem.W.exmOne K cv u = some (subB c y) := fun u q => by
  subst hb
  rcases q with q | ⟨n, _, q, _⟩
  · obtain rfl := ClsV.eq q e
    exact ⟨h1, h2⟩
  · rw [e] at q; cases q
theorem ofString_inj {a b : String} (h : Str.ofString a = Str.ofString b) : a = b := by
  have h2 := congrArg tl h
  rw [tl_lit, tl_lit] at h2
  have h3 : a.toList = b.toList := by
    have inj : ∀ {l1 l2 : List Char}, l1.map Char.toNat = l2.map Char.toNat → l1 = l2 := by
      intro l1
      induction l1 with
      | nil => intro l2 h; cases l2 with
        | nil => rfl
        | cons _ _ => cases h
      | cons x l1 ih => intro l2 h; cases l2 with
        | nil => cases h
        | cons y l2 =>
          simp only [List.map_cons, List.cons.injEq] at h
          rw [ih h.2, Char.toNat_inj.mp h.1]
    exact inj h2
  exact String.toList_inj.mp h3
theorem rel_bi {n : String} (e : PySem.W.nsIn K mainGlobals (Str.ofString n) = some none) (h1 : PySem.W.kitOne K cv (.type n) = some b) (h2 : PySem.W.exmOne K cv (.type n) = some b) (hb : b = subB c (Str.ofString n)) : ∀ u, NmV K (Str.ofString n) u → PySem.W.kitOne K cv u = some (subB c (Str.ofString n)) ∧ PySem.W.exmOne K cv u = some (subB c (Str.ofString n)) := fun u q => by
  subst hb
  rcases q with q | ⟨m, hm, q, rfl⟩
  · unfold ClsV at q
    rw [e] at q; cases q
  · obtain rfl := ofString_inj hm
    exact ⟨h1, h2⟩
theorem rel_of {M : List Str} (e : PySem.W.nsIn K mainGlobals c = some (some (.ref C))) (h : ∀ y ∈ M, ∀ u, NmV K y u → PySem.W.kitOne K (.ref C) u = some (subB c y) ∧ PySem.W.exmOne K (.ref C) u = some (subB c y)) :
    ∀ cv, ClsV K c cv → ∀ y ∈ M, ∀ u, NmV K y u → PySem.W.kitOne K cv u = some (subB c y) ∧ PySem.W.exmOne K cv u = some (subB c y) := fun cv q => by
  obtain rfl := ClsV.eq q e
  exact h
theorem fld_of {F : List Str} (e : PySem.W.nsIn K mainGlobals c = some (some (.ref C))) (h : ∀ f ∈ F, PySem.W.findIn K (.ref C) f = some none) : ∀ cv, ClsV K c cv → ∀ f ∈ F, PySem.W.findIn K cv f = some none := fun cv q => by
  obtain rfl := ClsV.eq q e
  exact h
theorem nm_own (e : PySem.W.nsIn K mainGlobals y = some (some (.ref D))) : NmK K y := .inl ⟨D, e⟩
theorem nm_bi {n : String} (h : bootBuiltins (Str.ofString n) = some (.type n)) (e : PySem.W.nsIn K mainGlobals (Str.ofString n) = some none) : NmK K (Str.ofString n) := .inr ⟨n, rfl, h, e⟩
end
def Mk1K (K : Frag) (x f : Str) : Prop := ∃ (C fI : Addr) (B newId initId : String) (bmB : List Value) (qn : Str), PySem.W.nsIn K mainGlobals x = some (some (.ref C)) ∧ ExcBaseFacts B newId initId bmB ∧ PySem.Xc.InitRun B newId initId bmB f qn K C fI ∧ PySem.Xc.Txt B newId initId bmB f qn K C fI
theorem Mk1K.to {K : Frag} {h : Heap} {mg : Str → Option Value} {x f : Str} (R : Mk1K K x f) (X : K.In h) (G : h.Ns mainGlobals mg) : Mk1 K mg x f := by
  obtain ⟨C, fI, B, a, b, bm, qn, e, h1, h2, h3⟩ := R
  exact ⟨C, fI, B, a, b, bm, qn, PySem.W.mg_of X G e, e, h1, h2, h3⟩
def Mk0K (K : Frag) (x : Str) : Prop := ∃ (C : Addr) (B newId initId : String) (bmB : List Value), PySem.W.nsIn K mainGlobals x = some (some (.ref C)) ∧ ExcBaseFacts B newId initId bmB ∧ PySem.W.excIn K C bmB newId = true ∧ PySem.W.keepIn K (.ref C) = true ∧ PySem.W.subIn K (.ref C) (.type "BaseException") = some true ∧ PySem.W.typeIn K (.ref C) = some (.type "type")
theorem Mk0K.to {K : Frag} {h : Heap} {mg : Str → Option Value} {x : Str} (R : Mk0K K x) (X : K.In h) (G : h.Ns mainGlobals mg) : Mk0 K mg x := by
  obtain ⟨C, B, a, b, bm, e, h1, h2⟩ := R
  exact ⟨C, B, a, b, bm, PySem.W.mg_of X G e, e, h1, h2⟩
end Pz
set_option maxRecDepth 100000
namespace Pz
open PySem PySem.Spec PyProof.Rows L2 TL
variable [PenC]
section
variable {X : Cx} {E : WXs} {Z0 : Zs} {e : Expr} {es : List Expr} {t : DA} {pos p : Pos} {x : Str} {f : FDX} {n k m : Nat} {N : List Str} {τ : DS}
def spXO (f : FDX) : DSp := fun ss cs Q Ed => cs = [] ∧ f ss (fun d => match d with
  | .list ds => Q (.o 0) [.lst ds]
  | _ => False) fun c fs => Ed c fs []
def aXO (f : FDX) (ss : List Sl) (st : Sto) (Q : DK) (Ed : DXF) : Prop := f ss (fun d => match d with
  | .list ds => Q (.o st.length) (st ++ [.lst ds])
  | _ => False) fun c fs => Ed c fs st
def wCallXO (f : FDX) (t : DA) : DE := fun Ed sl st Q => t Ed sl st fun ss st => aXO f ss st Q fun c fs st => Ed c fs sl st
theorem wCallXO_ap {Ed : DX} {sl : Sls} {st : Sto} {Q : DK} : wCallXO f t Ed sl st Q = (t Ed sl st fun ss st => aXO f ss st Q fun c fs st => Ed c fs sl st) := rfl
variable {fa : Addr} {fd : FuncData} {ps : List Str}
end
end Pz
set_option maxRecDepth 100000
namespace Pz
open PySem PySem.Spec PyProof.Rows L2 TL
variable [PenC]
def isKy : PyData → Bool
  | .none => false
  | _ => true
mutual
def noLst : PyData → Bool
  | .none | .bool _ | .int _ | .str _ => true
  | .list _ => false
  | .tuple ds => noLstAll ds
  | .dict kvs => noLstKv kvs
def noLstAll : List PyData → Bool
  | [] => true
  | x :: xs => noLst x && noLstAll xs
def noLstKv : List (PyData × PyData) → Bool
  | [] => true
  | (k, v) :: r => isKy k && (noLst v && noLstKv r)
end
theorem noLstKv_zip : ∀ {ks ds : List PyData}, ks.length = ds.length → noLstKv (ks.zip ds) = true → noLstAll ds = true
  | [], [], _, _ => rfl
  | [], _ :: _, h, _ => by simp at h
  | _ :: _, [], h, _ => by simp at h
  | k :: ks, d :: ds, h, e => by
    rw [List.zip_cons_cons, noLstKv, Bool.and_eq_true, Bool.and_eq_true] at e
    rw [noLstAll, e.2.1, noLstKv_zip (by simpa using h) e.2.2]
    rfl
section
variable {X : Cx} {pins : List (Addr × Obj)} {σ : L2.St} {H : Hp} {s : Shared} {W : Addr → Prop}
theorem keys_reads {P : Program} {w : World} {kvs : List (Key × V)} {xs : List (Key × Value)} (r : KV kvs xs) : ∀ {es : List DictEntry}, PySem.Pairs (mixKind P w) es xs → ReadsAll s.heap (es.map (·.key)) (kvs.map fun p => keyD p.1) [] ∧ Vals (kvs.map (·.2)) (es.map (·.val)) := by
  induction r with
  | nil =>
    intro es p
    cases p
    exact ⟨.nil, .nil⟩
  | cons h _ ih =>
    intro es p
    cases p with
    | cons p1 p2 p3 =>
      obtain ⟨i1, i2⟩ := ih p3
      rename_i a b l1 l2 r0 e es'
      obtain ⟨ha, hb⟩ := h
      refine ⟨?_, ?_⟩
      · have : Reads s.heap e.key (keyD a.1) [] := by
          rw [ha]
          have p1' : keyIs b.1 e.key = true := p1
          rcases keyIs_shape p1' with ⟨i, t, e1, e2⟩ | ⟨x, t, e1, e2⟩
          · rw [e1, e2]; exact .int i t
          · rw [e1, e2]; exact .str x t
        exact ReadsAll.cons (as := []) (bs := []) this i1
      · exact .cons (show RelV a.snd e.val by rw [p2]; exact hb) i2
mutual
theorem Im.reads (I : Inv X pins σ H s) : ∀ {v : V} {d : PyData}, Im X.K W H v d → noLst d = true → ∀ {u : Value}, RelV v u → ∃ as, Reads s.heap u d as ∧ sysModules ∉ as
  | _, _, .non, _, _, r => by cases r; exact ⟨_, .none, by simp⟩
  | _, _, .bl b, _, _, r => by cases r; exact ⟨_, .bool b, by simp⟩
  | _, _, .int i, _, _, r => by obtain ⟨t, rfl⟩ := r; exact ⟨_, .int i t, by simp⟩
  | _, _, .str x, _, _, r => by obtain ⟨t, rfl⟩ := r; exact ⟨_, .str x t, by simp⟩
  | _, _, .lst _ _ _, e, _, _ => by simp [noLst] at e
  | _, _, .tup (a := a) q r, e, _, rv => by
    obtain rfl := rv
    obtain ⟨its, rv, ⟨o, ho, hc, n, hd⟩, _⟩ := I.tuple q.sq
    obtain ⟨as, h1, h2⟩ := ImAll.reads I r (by simpa [noLst] using e) rv
    exact ⟨as, .tuple ho hc hd h1, h2⟩
  | _, _, .dct (a := a) (kvs := kvs) (ds := ds) q n r, e, _, rv => by
    obtain rfl := rv
    have hh := I.hok a _ q
    unfold L2.ObjOk at hh
    obtain ⟨_, q1, vs, kv, o, es, ep, g1, g2, g3, g4, g5, g6⟩ := hh
    obtain ⟨k1, k2⟩ := keys_reads (s := s) kv g5
    have hl := r.length
    rw [List.length_map] at hl
    have e2 : noLstKv ((kvs.map fun p => keyD p.1).zip ds) = true := by simpa [noLst] using e
    have e3 : noLstAll ds = true := noLstKv_zip (by rw [List.length_map]; exact hl) e2
    obtain ⟨as, h1, h2⟩ := ImAll.reads I r e3 k2
    have m1 : ((kvs.map fun p => keyD p.1).zip ds).map (·.1) = kvs.map fun p => keyD p.1 := List.map_fst_zip (by rw [List.length_map]; omega)
    have m2 : ((kvs.map fun p => keyD p.1).zip ds).map (·.2) = ds := List.map_snd_zip (by rw [List.length_map]; omega)
    refine ⟨a :: [] ++ as, .dict g1 g2.1 g3 (by rw [m1]; exact k1) (by rw [m2]; exact h1), ?_⟩
    intro m
    rcases List.mem_cons.mp m with m | m
    · rw [← m] at q1
      simp at q1
    · exact h2 m
  | _, _, .dcl _ _ _, e, _, _ => by simp [noLst, noLstKv, isKy, mkK] at e
  | _, _, .dcT _ _ _, e, _, _ => by simp [noLst, noLstKv, isKy, mkT] at e
theorem ImAll.reads (I : Inv X pins σ H s) : ∀ {vs : List V} {ds : List PyData}, ImAll X.K W H vs ds → noLstAll ds = true → ∀ {us : List Value}, Vals vs us → ∃ as, ReadsAll s.heap us ds as ∧ sysModules ∉ as
  | _, _, .nil, _, _, r => by cases r; exact ⟨_, .nil, by simp⟩
  | _, _, .cons q t, e, _, r => by
    simp only [noLstAll, Bool.and_eq_true] at e
    cases r with
    | cons r1 r2 =>
      obtain ⟨as, h1, h2⟩ := Im.reads I q e.1 r1
      obtain ⟨bs, h3, h4⟩ := ImAll.reads I t e.2 r2
      exact ⟨_, .cons h1 h3, by simp [h2, h4]⟩
end
end
structure RepZ (d : PyData) : Prop where
  no : noLst d = true
  sw : d.showable = true
  st : PyData.strOk d.shown = true
  ln : d.shown.length ≤ sizeLine
  dp : d.depth ≤ 60
theorem RepZ.sh {d : PyData} (h : RepZ d) : SeqAt.shaped (.str d.shown) = true := sh_str h.st
def rShowZ (K : Frag) : List V → Hp → VK → Prop := fun xs H Q => rShow K xs H Q ∨ ∃ (a : Addr) (d : PyData) (W : Addr → Prop), xs = [.ref a] ∧ Im K W H (.ref a) d ∧ RepZ d ∧ Q (.str d.shown) H
def fRepZ : FA := fun ss st Q => match ss with
  | [s] => match vw st s with
    | some d => (RepOk d ∨ (RepZ d ∧ s = .d d)) ∧ Q (.d (.str d.shown)) st
    | none => False
  | _ => False
end Pz
set_option maxRecDepth 100000
namespace Pz
open PySem PySem.Spec PyProof.Rows L2 TL PySem.W
variable [PenC]
section
variable {prog : Program} {w : World} {A : Around} {E : Value → Shared → Prop} {s : Shared} {z : Str} {t : Tok}
theorem kds_hint {Q : Bool → Shared → Prop} (h : Q false s) : wpAny (model prog w) A (Builtin.List.listLengthHint (.str z t)) Q E s := by
  have hT : s.TypeIs (.str z t) "str" := typeIs_str s z t
  unfold Builtin.List.listLengthHint
  refine wpAny_bind (wpAny_specialOf hT PySem.F.slot_str_len.lookup ?_)
  generalize hid : ("str.__len__" : String) = id0
  wp_delta
  rw [show splitId id0 = some ("str", "__len__") from by subst hid; decide +kernel]
  subst hid
  refine wpAny_bind (wpAny_isInstance (T := "str") (b := true) hT (by rw [isSubtype_type]; kernel_rfl) ?_)
  refine wpAny_ite_split (fun hab => absurd hab (by decide)) (fun _ => ?_)
  refine wpAny_ite_split (fun _ => ?_) (fun hab => absurd (by decide +kernel) hab)
  refine wpAny_bind (wpAny_typeOf hT ?_)
  exact wpAny_pure h
theorem kds_extend {R : Result → Shared → Prop} (hh : A.handled = none) (S : Addr) (res : Value) (c₀ : Nat) (hS : s.heap.get? S = some { cls := .type "list", data := .seq #[] c₀ })
    (hR : ∀ h' tk acc' c', (∀ b o, b ≠ S → s.heap.get? b = some o → h'.get? b = some o) → h'.get? S = some { cls := .type "list", dict := none, data := .seq acc' c', slots := #[] } → ItemsOf (SignAt z) acc' z.cps.size → R (.ok (.ret res)) { s with heap := h', toks := tk }) (hn : z.cps.size ≤ sizeLine) :
    wpAny (model prog w) A.in1 (Builtin.List.listExtendWith (.ref S) (.str z t) res)
      (fun fin s' => match fin with | .done f => R (.ok f) s' | .again c' => c'.quiet = true ∧ codeAny (model prog w) A c' R s') (fun e s' => R (.error e) s') s := by
  have hSI : S ≠ s.heap.objs.size := Nat.ne_of_lt (Heap.lt_size hS)
  have hSf : S ∉ [s.heap.objs.size] := by simp only [List.mem_cons, List.not_mem_nil, or_false]; exact hSI
  unfold Builtin.List.listExtendWith
  refine wpAny_bind (wpAny_typeOf (T := "str") (typeIs_str s z t) ?_)
  have h1 : Builtin.List.listSameRef (.ref S) (.str z t) = false := rfl
  have h2 : (Value.type "str" == Value.type "list") = false := by decide
  have h3 : (Value.type "str" == Value.type "tuple") = false := by decide
  simp only [h1, h2, h3, Bool.or_false, Bool.false_eq_true, if_false]
  refine wpAny_bind (wpAny_pyIter_str fun oI St W st => ?_)
  have hS₁ := Heap.get?_push_of_some oI hS
  refine wpAny_bind (wpAny_holding (kds_hint ?_))
  refine wpAny_ite_split (fun hab => absurd hab (by decide)) (fun _ => wpAny_pure ⟨plainId_quiet PySem.F.plain_extend_loop _, ?_⟩)
  refine codeAny_extend_loopS (W A.in1 hh).toS hn S hSf res z.cps.size 0 _ #[] c₀ rfl (Nat.zero_le _) st hS₁ (ItemsOf.nil _) fun s' acc' c' hm hS' hacc => ?_
  rw [Moved.eq_with hm]
  refine hR s'.heap s'.toks acc' c' (fun b o hb e => hm.heap b o (fun hmem => ?_) (Heap.get?_push_of_some _ e)) hS' hacc
  rcases List.mem_cons.mp hmem with e' | hmem
  · exact hb e'
  · exact absurd (Heap.lt_size e) (by rw [List.mem_singleton.mp hmem]; exact Nat.lt_irrefl _)
theorem kds_init {R : Result → Shared → Prop} (hh : A.handled = none) (S : Addr) (hS : s.heap.get? S = some { cls := .type "list", data := .seq #[] })
    (hR : ∀ h' tk acc' c', (∀ b o, b ≠ S → s.heap.get? b = some o → h'.get? b = some o) → h'.get? S = some { cls := .type "list", dict := none, data := .seq acc' c', slots := #[] } → ItemsOf (SignAt z) acc' z.cps.size → R (.ok (.ret .none)) { s with heap := h', toks := tk }) (hn : z.cps.size ≤ sizeLine) :
    wpAny (model prog w) A.in1 (Builtin.«list.__init__» ⟨[.ref S, .str z t], []⟩)
      (fun fin s' => match fin with | .done f => R (.ok f) s' | .again c' => c'.quiet = true ∧ codeAny (model prog w) A c' R s') (fun e s' => R (.error e) s') s := by
  show wpAny _ _ (do let old ← Builtin.List.listItems (.ref S); Builtin.List.listUpdate (.ref S) (fun _ => #[]); letGo old.toList.reverse; Builtin.List.listExtendWith (.ref S) (.str z t) .none) _ _ s
  refine wpAny_bind ?_
  unfold Builtin.List.listItems
  refine wpAny_bind (wpAny_seqItems hS rfl (wpAny_pure ?_))
  show wpAny _ _ (updateSeq S (fun _ => #[]) >>= fun _ => letGo (#[] : Array Value).toList.reverse >>= fun _ => Builtin.List.listExtendWith (.ref S) (.str z t) .none) _ _ s
  refine wpAny_bind (wpAny_updateSeq hS rfl ?_)
  have hS₂ := Heap.get?_update_self (Obj.mapSeq (fun _ => (#[] : Array Value))) hS rfl
  have oth : ∀ b o, b ≠ S → s.heap.get? b = some o → (s.heap.update S (Obj.mapSeq (fun _ => (#[] : Array Value)))).get? b = some o :=
    fun b o hb e => (Heap.get?_update_other _ _ (Ne.symm hb)).trans e
  refine wpAny_bind (wpAny_letGo ?_)
  refine kds_extend hh S .none _ hS₂ (fun h' tk acc' c' hk hS' hacc => ?_) hn
  exact hR h' tk acc' c' (fun b o hb e => hk b o hb (oth b o hb e)) hS' hacc
theorem kds_call {Q : Value → Shared → Prop} (hh : A.handled = none) (hn : z.cps.size ≤ sizeLine)
    (hQ : ∀ h' tk acc' c', (∀ b o, s.heap.get? b = some o → h'.get? b = some o) → h'.get? s.heap.objs.size = some { cls := .type "list", dict := none, data := .seq acc' c', slots := #[] } → ItemsOf (SignAt z) acc' z.cps.size → Q (.ref s.heap.objs.size) { s with heap := h', toks := tk }) :
    wpAny (model prog w) A (call (.type "list") [.str z t]) Q E s := by
  refine callType_codes (Q₁ := fun obj s₁ => obj = .ref s.heap.objs.size ∧ s₁ = { s with heap := s.heap.push { cls := .type "list", data := .seq #[] } }) PySem.F.called_list (PySem.F.typeCall_list_1 _) PySem.F.entry_list_init
    (code_list_new _ ⟨rfl, rfl⟩) fun obj s₁ h₁ => ?_
  obtain ⟨rfl, rfl⟩ := h₁
  have hS : (s.heap.push { cls := .type "list", data := .seq #[] }).get? s.heap.objs.size = some { cls := .type "list", data := .seq #[] } := Heap.get?_push_size _ rfl
  refine ⟨⟨_, hS, rfl⟩, PySem.F.args_list_init_2 _ _, kds_init (A := A.in1) hh _ hS (fun h' tk acc' c' hk hS' hacc => ?_) hn⟩
  exact ⟨rfl, hQ h' tk acc' c' (fun b o e => hk b o (Nat.ne_of_lt (Heap.lt_size e)) (Heap.get?_push_of_some _ e)) hS' hacc⟩
end
section
variable {X : Cx} {K : Frag}
def sgV (z : Str) : List V := (tl z).map fun c => .str ⟨#[c]⟩
def rListS : List V → Hp → VK → Prop := fun xs H Q => ∃ z, xs = [V.str z] ∧ z.length ≤ sizeLine ∧ ∀ l, H l = none → Q (.ref l) (upd H l (.lst (sgV z)))
theorem call_list_str (hc : X.calm = true) : CallR X (.type "list") rListS := by
  intro pins s σ H xs us Q I r h
  obtain ⟨z, rfl, hz, q⟩ := h
  obtain ⟨u, rfl, rx⟩ := vals1 r
  obtain ⟨t, rfl⟩ := rx
  have hz2 : z.cps.size ≤ sizeLine := hz
  refine kds_call (I.ok.hd hc) hz2 fun h' tk acc c' hk hD hacc => ?_
  have hl : (sgV z).length = z.cps.size := by simp [sgV, tl]
  have hv : Vals (sgV z) acc.toList := by
    have go : ∀ (vs : List V) (us : List Value), us.length = vs.length → (∀ (j : Nat) (u : Value), us[j]? = some u → ∃ v, vs[j]? = some v ∧ RelV v u) → Vals vs us := by
      intro vs
      induction vs with
      | nil => intro us hl _; cases us with | nil => exact .nil | cons _ _ => simp at hl
      | cons v vs ih =>
        intro us hl hj
        cases us with
        | nil => simp at hl
        | cons u us =>
          obtain ⟨v', e, r⟩ := hj 0 u rfl
          simp at e
          subst e
          exact .cons r (ih us (by simpa using hl) fun j u e => hj (j + 1) u (by simpa using e))
    refine go _ _ (by rw [hl, Array.length_toList]; exact hacc.1) fun j u e => ?_
    obtain ⟨c, t', e1, rfl⟩ := hacc.2 j u (by rw [← Array.getElem?_toList]; exact e)
    refine ⟨.str ⟨#[c]⟩, ?_, ⟨t', rfl⟩⟩
    rw [sgV, List.getElem?_map]
    have : (tl z)[j]? = some c := by rw [← e1]; simp [tl]
    rw [this]; rfl
  refine ⟨.ref s.heap.objs.size, upd H s.heap.objs.size (.lst (sgV z)), I.laid (t' := tk) hk (Nat.le_refl _)
    (show ObjOk X.prog X.w _ _ _ (.lst (sgV z)) from ⟨by rw [hl]; exact hz2, acc.toList, c', hv, by rw [Array.toArray_toList]; exact hD⟩), rfl, q _ (I.hok.fresh (Nat.le_refl _))⟩
end
section
variable {K : Frag}
def rListE (K : Frag) : List V → Hp → VK → Prop := fun xs H Q => (∃ p ys, xs = [.ref p] ∧ (SqL K H p ys ∨ SqT K H p ys) ∧ ∀ l, H l = none → Q (.ref l) (upd H l (.lst ys))) ∨ rListS xs H Q
theorem call_listE {X : Cx} (hc : X.calm = true) : CallR X (.type "list") (rListE X.K) := call_list_of.or (call_list_str hc)
def fListE : FA := fun ss st Q => match ss with
  | [s] => match vw st s with
    | some (.list ds) => Q (.d (.list ds)) st
    | some (.tuple ds) => Q (.d (.list ds)) st
    | some (.str z) => z.length ≤ 16777216 ∧ Q (.d (.list (signs z))) st
    | _ => False
  | _ => False
def fListEO : FA := fun ss st Q => match ss with
  | [s] => match vw st s with
    | some (.list ds) => Q (.o st.length) (st ++ [.lst ds])
    | some (.tuple ds) => Q (.o st.length) (st ++ [.lst ds])
    | some (.str z) => z.length ≤ 16777216 ∧ Q (.o st.length) (st ++ [.lst (signs z)])
    | _ => False
  | _ => False
theorem signs_im {W : Addr → Prop} {H : Hp} (z : Str) : ImAll K W H (sgV z) (signs z) := by
  unfold sgV signs
  induction tl z with
  | nil => exact .nil
  | cons c l ih => exact .cons (.str _) ih
theorem rp_strV {Z : Zs} {v : V} {s : Sl} {z : Str} (r : Rp K Z v s) (e : vw Z.st s = some (.str z)) : v = .str z := by
  have i := r.data e fun ds h => by cases h
  cases i
  rfl
theorem cd_listE : CallD K (rListE K) fListE := by
  intro Z vs ss Qd Q ok ra w k
  unfold fListE at w
  split at w
  · obtain ⟨v, rfl, r⟩ := rp1 ra
    split at w
    · rename_i ds e
      obtain ⟨a, xs, rfl, h, q⟩ := r.list ok e
      exact .inl ⟨a, xs, rfl, .inl (.of h), k.newL ok q w⟩
    · rename_i ds e
      obtain ⟨a, xs, rfl, h, q⟩ := r.tuple e
      exact .inl ⟨a, xs, rfl, .inr h.sq, k.newL ok q w⟩
    · rename_i z e
      obtain rfl := rp_strV r e
      exact .inr ⟨z, rfl, w.1, fun l n => k.newL ok (signs_im z) w.2 l n⟩
    · exact w.elim
  · exact w.elim
end
end Pz
set_option maxRecDepth 100000
namespace Pz
open PySem PySem.Spec PyProof.Rows L2 TL
variable [PenC]
section
variable {X : Cx} {E : WXs} {pos : Pos} {K : Frag}
abbrev Zs.cut (Z : Zs) (n : Nat) : Zs := Zs.mk (Z.φ.take n) (Z.st.take n) Z.H Z.F
def kvD (kvs : KD) : List (PyData × PyData) := kvs.map fun kv => (keyD kv.1, kv.2)
def wDispD (r : DP) : DE := fun Ed sl st Q => r Ed sl (st ++ [.dK []]) fun kvs st2 => st2[st.length]? = some (.dK []) ∧ kvs.length ≤ 15 ∧ (∀ c ∈ st2.take st.length, Cl st.length c) ∧ Q (.d (.dict (kvD (mergeD [] kvs)))) (st2.take st.length)
theorem wDispD_ap {r : DP} {Ed : DX} {sl : Sls} {st : Sto} {Q : DK} : wDispD r Ed sl st Q = (r Ed sl (st ++ [.dK []]) fun kvs st2 => st2[st.length]? = some (.dK []) ∧ kvs.length ≤ 15 ∧ (∀ c ∈ st2.take st.length, Cl st.length c) ∧ Q (.d (.dict (kvD (mergeD [] kvs)))) (st2.take st.length)) := rfl
theorem mergeD1 {k : Key} {d : PyData} : mergeD [] [(k, d)] = [(k, d)] := rfl
theorem kvD1 {k : Key} {d : PyData} : kvD [(k, d)] = [(keyD k, d)] := rfl
theorem keyD_s {x : Str} : keyD (.inr x) = .str x := rfl
theorem keyD_i {x : Int} : keyD (.inl x) = .int x := rfl
end
end Pz
set_option maxRecDepth 100000
namespace Pz
open PySem PySem.Spec PyProof.Rows L2 TL PySem.W
variable [PenC]
mutual
theorem nodict_alike : ∀ {d : PyData}, alike d d = true → d.hasDict = false
  | .none, _ => rfl
  | .bool _, _ => rfl
  | .int _, _ => rfl
  | .str _, _ => rfl
  | .list xs, h => by rw [PyData.hasDict]; exact nodict_alikeAll (by simpa [alike] using h)
  | .tuple xs, h => by rw [PyData.hasDict]; exact nodict_alikeAll (by simpa [alike] using h)
  | .dict _, h => by simp [alike] at h
theorem nodict_alikeAll : ∀ {ds : List PyData}, alikeAll ds ds = true → PyData.hasDictAll ds = false
  | [], _ => rfl
  | x :: xs, h => by
    rw [alikeAll, Bool.and_eq_true] at h
    rw [PyData.hasDictAll, nodict_alike h.1, nodict_alikeAll h.2]
    rfl
end
abbrev dsort (ds : List PyData) : List PyData := ds.mergeSort (dataLe false id)
section
variable {X : Cx} {K : Frag}
def rSortedG (K : Frag) : List V → Hp → VK → Prop := fun xs H Q => ∃ (a : Addr) (vs : List V) (ds : List PyData) (W : Addr → Prop), xs = [.ref a] ∧ SqL K H a vs ∧ ImAll K W H vs ds ∧ AllAlike ds ∧ Sortable ds ∧ (∀ d ∈ ds, d.depth ≤ 50) ∧
  ∀ (ws : List V) (p : Addr), ImAll K W H ws (dsort ds) → H p = none → Q (.ref p) (upd H p (.lst ws))
theorem each_im {W : Addr → Prop} {H : Hp} {h : Heap} : ∀ {us : List Value} {ds : List PyData}, EachIs (fun u d => ∃ v, RelV v u ∧ Im K W H v d) us ds → ∃ vs, Vals vs us ∧ ImAll K W H vs ds
  | _, _, .nil => ⟨[], .nil, .nil⟩
  | _, _, .cons h t => by
    obtain ⟨v, r, i⟩ := h
    obtain ⟨vs, rs, is⟩ := each_im (h := ‹Heap›) t
    exact ⟨v :: vs, .cons r rs, .cons i is⟩
theorem im_each {W : Addr → Prop} {H : Hp} : ∀ {us : List Value} {vs : List V} {ds : List PyData}, Vals vs us → ImAll K W H vs ds → EachIs (fun u d => ∃ v, RelV v u ∧ Im K W H v d) us ds
  | _, _, _, .nil, .nil => .nil
  | _, _, _, .cons r t, .cons i is => .cons ⟨_, r, i⟩ (im_each t is)
theorem EachIs.monoM {α β : Type} {R R' : α → β → Prop} : ∀ {as : List α} {bs : List β}, (∀ a, ∀ b ∈ bs, R a b → R' a b) → EachIs R as bs → EachIs R' as bs
  | _, _, _, .nil => .nil
  | _, _, h, .cons r t => .cons (h _ _ List.mem_cons_self r) (EachIs.monoM (fun a b m => h a b (List.mem_cons_of_mem _ m)) t)
theorem cr_sortedG (hu : X.A.units + 64 < cLine) : CallR X (.builtin "sorted") (rSortedG X.K) := by
  intro pins s σ H xs us Q I r h
  obtain ⟨a, vs, ds, W, rfl, hs, hi, hal, hso, hd, q⟩ := h
  obtain ⟨its, rv, hl, hz⟩ := I.list hs
  rw [Vals.ref1 r]
  have hlen := hi.length
  have er := im_each rv hi
  have er2 : EachIs (fun v b => ∃ as, Reads s.heap v (id b) as) its ds := EachIs.monoM (fun u d m ⟨v, r, i⟩ => Dp.reads I d v u (i.dp (nodict_alike (hal d m d m))) r) er
  refine sorted_data (enc := id) (bs := ds) hl.isList er er2 (by rw [List.map_id]; exact hal) (by rw [List.map_id]; exact hso) (by rw [← hlen]; exact hz) (fun d m => by have := hd d m; simp only [id]; omega) fun out h1 h2 => ?_
  obtain ⟨ws, k1, k2⟩ := each_im (h := s.heap) h2
  obtain ⟨ep, he'⟩ := PyProof.Rows.sortedAll_at s.heap its out.toArray
  have hw : ws.length ≤ sizeLine := by rw [k1.length, h1, ← hlen]; exact hz
  exact ⟨.ref _, upd H (s.heap.objs.size + 1) (.lst ws), I.laid (t' := s.toks) (fun _ _ => PyProof.Rows.sortedAll_old) (Nat.le_succ _) ⟨hw, out, ep, k1, he'⟩, rfl, q ws _ k2 (I.hok.fresh (Nat.le_succ _))⟩
end
def fSortedG : FA := fun ss st Q => match ss with
  | [s] => match vw st s with
    | some (.list ds) => AllAlike ds ∧ Sortable ds ∧ (∀ d ∈ ds, d.depth ≤ 50) ∧ Q (.d (.list (dsort ds))) st
    | _ => False
  | _ => False
theorem cd_sortedG {K : Frag} : CallD K (rSortedG K) fSortedG := by
  intro Z vs ss Qd Q ok ra w k
  unfold fSortedG at w
  split at w
  · obtain ⟨v, rfl, r⟩ := rp1 ra
    split at w
    · rename_i ds e
      obtain ⟨a, xs, rfl, h, q⟩ := r.list ok e
      obtain ⟨w1, w2, w3, w⟩ := w
      exact ⟨a, xs, ds, Z.W, rfl, .of h, q, w1, w2, w3, fun ws p hi hp => k.newL ok hi w p hp⟩
    · exact w.elim
  · exact w.elim
end Pz
set_option maxRecDepth 100000
namespace Pz
open PySem PySem.Spec PyProof.Rows L2 TL PySem.W
variable [PenC]
abbrev lsort (zs : List Str) : List Str := zs.mergeSort fun a b => decide ((a.length : Int) ≤ (b.length : Int))
def rSortLen (K : Frag) : List V → Hp → VK → Prop := fun vs H Q => ∃ (a : Addr) (zs : List Str), vs = [V.ref a] ∧ SqL K H a (zs.map V.str) ∧ (∀ z ∈ zs, z.length ≤ sizeLine) ∧ ∀ p, H p = none → Q (.ref p) (upd H p (.lst ((lsort zs).map V.str)))
section
variable {X : Cx} {E : WXs} {e : Expr} {te : DE} {x : Str} {p p2 pos kp : Pos} {K : Frag} {t : TA}
def wSortLen (te : DE) : DE := fun Ed sl st Q => te Ed sl st fun s st => match vw st s with
  | some (.list ds) => ∃ zs, asStrs ds = some zs ∧ (∀ z ∈ zs, z.length ≤ 16777216) ∧ Q (.d (.list ((lsort zs).map .str))) st
  | _ => False
theorem wSortLen_ap {Ed : DX} {sl : Sls} {st : Sto} {Q : DK} : wSortLen te Ed sl st Q = (te Ed sl st fun s st => match vw st s with
  | some (.list ds) => ∃ zs, asStrs ds = some zs ∧ (∀ z ∈ zs, z.length ≤ 16777216) ∧ Q (.d (.list ((lsort zs).map .str))) st
  | _ => False) := rfl
end
end Pz
set_option maxRecDepth 100000
namespace Pz
open PySem PySem.Spec PyProof.Rows L2 TL
variable [PenC]
def KwDs (K : Frag) (w : World) (a : Addr) (kvs : List (Str × V)) : Prop := ∃ es n, K.lookup a = some ⟨.type "dict", none, .dict es n, #[]⟩ ∧ PySem.W.KeysLit w.params es.toList ∧ (a == sysModules) = false ∧
  Paired (fun (p : Str × V) (e : DictEntry) => (∃ t, e.key = .str p.1 t) ∧ RelV p.2 e.val) kvs es.toList
section
variable {X : Cx} {E : WXs} {x : Str} {p apos cpos : Pos} {e f : Expr} {ty tx : TE} {a : Addr} {kvs : List (Str × V)}
end
section
variable {X : Cx} {E : WXs} {x : Str} {p apos cpos : Pos} {e f : Expr} {ty tx : DE} {a : Addr} {kvs : List (Str × V)} {K : Frag}
def dV : V → PyData
  | .int i => .int i
  | .str z => .str z
  | .bl b => .bool b
  | _ => .none
def flV : V → Bool
  | .int _ | .str _ | .bl _ | .non => true
  | _ => false
def wGGet (kvs : List (Str × V)) (ty tx : DE) : DE := fun Ed sl st Q => ty Ed sl st fun t st => tx Ed sl st fun u st => match vw st t with
  | some (.str z) => match kvs.lookup z with
    | some v => Q (.d (dV v)) st
    | none => Q u st
  | _ => False
theorem wGGet_ap {Ed : DX} {sl : Sls} {st : Sto} {Q : DK} : wGGet kvs ty tx Ed sl st Q = (ty Ed sl st fun t st => tx Ed sl st fun u st => match vw st t with
  | some (.str z) => match kvs.lookup z with
    | some v => Q (.d (dV v)) st
    | none => Q u st
  | _ => False) := rfl
end
end Pz
set_option maxRecDepth 100000
namespace Pz
open PySem PySem.Spec PyProof.Rows L2 TL
variable [PenC]
def rMinDf (K : Frag) : List V → List V → Hp → VK → Prop := fun vs zs H Q => ∃ (a : Addr) (ns : List Int) (d : V), vs = [V.ref a] ∧ zs = [d] ∧ (SqL K H a (ns.map V.int) ∨ SqT K H a (ns.map V.int)) ∧ if ns = [] then Q d H else Q (.int (lmin ns)) H
section
variable {X : Cx} {E : WXs} {e f : Expr} {te tx : DE} {x : Str} {p pos kp : Pos} {K : Frag}
def wMinDf (te tx : DE) : DE := fun Ed sl st Q => te Ed sl st fun s st => tx Ed sl st fun u st => ∃ ns, vwJ st s = some ns ∧ if ns = [] then Q u st else Q (.d (.int (lmin ns))) st
theorem wMinDf_ap {Ed : DX} {sl : Sls} {st : Sto} {Q : DK} : wMinDf te tx Ed sl st Q = (te Ed sl st fun s st => tx Ed sl st fun u st => ∃ ns, vwJ st s = some ns ∧ if ns = [] then Q u st else Q (.d (.int (lmin ns))) st) := rfl
end
end Pz
set_option maxRecDepth 100000
namespace Pz
open PySem PySem.Spec PyProof.Rows L2 TL
variable [PenC]
section
variable {X : Cx} {E : WXs} {Z0 : Zs} {a b : Expr} {t : DA} {pos px py pt pt2 : Pos} {x y : Str} {kt k2 : Nat}
def wPar (i j : Nat) (t : DA) : DS := fun D sl st => t D.ex sl st fun ss st => match ss with
  | [a, b] => D.nx ((sl.set i (some a)).set j (some b)) st
  | _ => False
theorem wPar_ap {i j : Nat} {nx bk ct : Sls → Sto → Prop} {rt : DK} {ex : DX} {sl : Sls} {st : Sto} : wPar i j t ⟨nx, rt, ex, bk, ct⟩ sl st = t ex sl st fun ss st => match ss with
  | [a, b] => nx ((sl.set i (some a)).set j (some b)) st
  | _ => False := rfl
end
end Pz
set_option maxRecDepth 100000
namespace Pz
open PySem PySem.Spec PyProof.Rows L2 TL
variable [PenC]
def rShowW (K : Frag) : List V → Hp → VK → Prop := fun xs H Q => rShow K xs H Q ∨ ∃ (a : Addr) (ds : List PyData) (W : Addr → Prop), xs = [.ref a] ∧ Im K W H (.ref a) (.list ds) ∧ (∀ d ∈ ds, itOk d) ∧ (PyData.list ds).depth ≤ 60 ∧ (PyData.list ds).shown.length ≤ sizeLine ∧ Q (.str (PyData.list ds).shown) H
structure RepW (ds : List PyData) : Prop where
  ok : ∀ d ∈ ds, itOk d
  st : PyData.strOk (PyData.list ds).shown = true
  ln : (PyData.list ds).shown.length ≤ sizeLine
  dp : (PyData.list ds).depth ≤ 60
def RepA (d : PyData) : Prop := RepOk d ∨ ∃ ds, d = .list ds ∧ RepW ds
theorem RepA.sh {d : PyData} (h : RepA d) : SeqAt.shaped (.str d.shown) = true := by
  rcases h with h | ⟨ds, rfl, h⟩
  · exact h.sh
  · exact sh_str h.st
def fRepW : FA := fun ss st Q => match ss with
  | [.d d] => RepA d ∧ Q (.d (.str d.shown)) st
  | _ => False
section
variable {K : Frag}
def fBool : FA := fun ss st Q => match ss with
  | [s] => match vw st s with
    | some (.int i) => Q (.d (.bool (i != 0))) st
    | some (.bool b) => Q (.d (.bool b)) st
    | _ => False
  | _ => False
end
end Pz
set_option maxRecDepth 100000
namespace Pz
open PySem PySem.Spec PyProof.Rows L2 TL
variable [PenC]
def ItW (w : Nat) (d : PyData) : Prop := RepP w 10 d ∨ d = .dict []
theorem ItW.len {w : Nat} {d : PyData} (h : ItW w d) (hw : 2 ≤ w) : d.shown.length ≤ w ∧ PyData.strOk d.shown = true ∧ d.depth ≤ 10 ∧ itOk d := by
  rcases h with h | rfl
  · exact ⟨Nat.le_trans (shown_wt h.ok) h.wt, strOk_shown h.ok, h.dp, .inl h.ok⟩
  · rw [shown_dn]
    exact ⟨by rw [len_lit, show "{}".length = 2 by decide +kernel]; exact hw, strOk_lit, by decide +kernel, .inr rfl⟩
end Pz
set_option maxRecDepth 100000
namespace Pz
open PySem PySem.Spec PyProof.Rows L2 TL
variable [PenC]
section
variable {K : Frag}
def mSplitO : FM := fun s ss st Q => match ss with
  | [t] => match vw st s, vw st t with
    | some (.str a), some (.str b) => b.length ≠ 0 ∧ a.length + 2 ≤ sizeLine ∧ Q (.o st.length) (st ++ [.lst ((Txt.split a b).map .str)])
    | _, _ => False
  | _ => False
end
end Pz
set_option maxRecDepth 100000
set_option maxHeartbeats 2000000
namespace Lz
open PySem PySem.Spec PyProof.Rows L2 LamX
abbrev lamQ (X : Cx) : Str := X.env.qual ++ "<lambda>"
section
variable {X : Cx} {pins : List (Addr × Obj)} {σ : L2.St} {H : Hp} {s : Shared}
def Grown (H H1 : Hp) (P c : Addr) (q : Str) : Prop := H1 = H ∨ ∃ (ps : Array Value) (pos : Pos), H P = some (.tbl ps) ∧ TriplesOk ps.toList ∧ H c = none ∧ H1 = upd (upd H P (.tbl (ps ++ #[rawInt pos.line, rawInt pos.col, .ref c]))) c (CodeO c q)
theorem make {T : List (Addr × Str)} {c P : Addr} {params : Arguments} {body : Expr} {scope : Scope} {pos : Pos} {E Q : Value → Shared → Prop} (J : Inv X pins σ H s) (B : TabB X.base X.mg c P) (ec : X.env.code = .ref c)
    (inT : (P, lamQ X) ∈ T) (one : ∀ p ∈ T, p.1 = P → p.2 = lamQ X) (tabs : Tabs T H) (nodef : defaultsOf params X.env = ([], [])) (caps : ∀ y ∈ scope.names, y.2 = .free → ∃ z, X.env.cells.lookup y.1 = some z)
    (fin : ∀ (f d : Addr) (pm ct : Value) (H1 : Hp) (s1 : Shared), Inv X pins σ H1 s1 → Grown H H1 P d (lamQ X) → Tabs T H1 →
      s1.heap.get? f = some (PySem.W.kla_obj "<lambda>" (lamQ X) params body scope (cloFrom X.env.cells scope.names []) pm d ct) → H1 f = none → f ∉ frs X.stack → H1 d = some (CodeO d (lamQ X)) → (H d = none ∨ ∃ ps pos, H P = some (.tbl ps) ∧ codeAmong pos ps.toList = some (.ref d)) → Q (.ref f) s1) :
    wpAny (model X.prog X.w) X.A (eval (.Lambda params body scope pos) X.env) Q E s := by
  obtain ⟨ps, eP, tr, old⟩ := tabs _ inT
  dsimp only at eP old
  have bm := B.bm.keeps J.bk
  have hP : s.heap.get? P = some { cls := .none, data := .fields ps } := J.hok P _ eP
  have away : ∀ f, s.heap.objs.size ≤ f → f ∉ frs X.stack := fun f le m => by
    rcases List.mem_cons.mp (J.stkSub _ m) with e | e
    · have := J.lt
      rw [← e] at this
      exact Nat.not_lt.mpr le this
    · exact J.nofs le e
  apply PySem.W.kla_eval nodef
  cases at? : codeAmong pos ps.toList with
  | some cv =>
    obtain ⟨d, rfl, hd⟩ := old pos cv at?
    apply PySem.W.kla_makeFunctionHit (mg := X.mg) (c := c) (P := P) (ps := ps) (closure_ok caps) J.ok.glob (J.mod.glob.keeps J.bk) ec (B.code.keeps J.bk) hP tr at? bm
    intro ct h2 tk ext hsz
    refine fin h2.objs.size d ((X.mg "__name__").getD .none) ct H _ (J.kept fun b o e => Heap.get?_push_of_some _ (ext b o e)) (.inl rfl) tabs (Heap.get?_push_size _ rfl) (J.hok.fresh hsz) (away _ hsz) hd (.inr ⟨ps, pos, eP, at?⟩)
  | none =>
    apply PySem.W.kla_makeFunction (mg := X.mg) (c := c) (P := P) (ps := ps) (closure_ok caps) J.ok.glob (J.mod.glob.keeps J.bk) ec (B.code.keeps J.bk) hP tr at? B.gP bm
    rintro d ct h2 tk ext hge hlt ⟨d2, oc, vs, t, ed, q1, q2, q3⟩ htb
    cases ed
    have nd : H d = none := J.hok.fresh hge
    have big : s.heap.objs.size ≤ h2.objs.size := by omega
    have dP : P ≠ d := ne_of_none eP nd
    have J1 := inv_table (t' := tk) (more := #[rawInt pos.line, rawInt pos.col, .ref d]) (h' := h2.push (PySem.W.kla_obj "<lambda>" (lamQ X) params body scope (cloFrom X.env.cells scope.names []) ((X.mg "__name__").getD .none) d ct)) J eP
      (fun b o hb e => Heap.get?_push_of_some _ (ext b o hb e)) (Heap.get?_push_of_some _ htb) hge ⟨oc, vs, t, Heap.get?_push_of_some _ q1, q2, q3⟩
    have more : (ps ++ #[rawInt pos.line, rawInt pos.col, .ref d]).toList = ps.toList ++ [rawInt pos.line, rawInt pos.col, .ref d] := by simp
    have keep : ∀ z q, H z = some (CodeO z q) → upd (upd H P (.tbl (ps ++ #[rawInt pos.line, rawInt pos.col, .ref d]))) d (CodeO d (lamQ X)) z = some (CodeO z q) := fun z q e => by
      have zP : z ≠ P := fun y => by
        rw [y, eP] at e
        exact codeO_ne ps (Option.some.inj e).symm
      rw [upd_ne (ne_of_none e nd), upd_ne zP]
      exact e
    refine fin h2.objs.size d ((X.mg "__name__").getD .none) ct _ _ J1 (.inr ⟨ps, pos, eP, tr, nd, rfl⟩) (fun p hp => ?_) (Heap.get?_push_size _ rfl) ?_ (away _ big) upd_same (.inl nd)
    · obtain ⟨us, a1, a2, a3⟩ := tabs p hp
      by_cases hb : p.1 = P
      · rw [hb, eP] at a1
        cases a1
        rw [one p hp hb, hb]
        refine ⟨_, by rw [upd_ne dP, upd_same], by rw [more]; exact PySem.TriplesOk_snoc _ _ _ _ tr, fun p' cv hc => ?_⟩
        rw [more] at hc
        rcases among_app _ tr hc with z | z
        · obtain ⟨e0, r1, r2⟩ := old p' cv z
          exact ⟨e0, r1, keep _ _ r2⟩
        · exact ⟨d, z, upd_same⟩
      · refine ⟨us, by rw [upd_ne (ne_of_none a1 nd), upd_ne hb]; exact a1, a2, fun p' cv hc => ?_⟩
        obtain ⟨e0, r1, r2⟩ := a3 p' cv hc
        exact ⟨e0, r1, keep _ _ r2⟩
    · have m1 : h2.objs.size ≠ d := by omega
      have m2 : h2.objs.size ≠ P := Nat.ne_of_gt (Nat.lt_of_lt_of_le (Heap.lt_size hP) big)
      rw [upd_ne m1, upd_ne m2]
      exact J.hok.fresh big
theorem act_go {CXg : CXT} {Eg : XK} {Ng : List Str} {qg : Str} {sg : Scope} {g f d : Addr} {cdg pm ct : Value} {params : Arguments} {body : Expr} {scope : Scope} {k i : Nat} {a : Str} {pn : List (Addr × Obj)} {xe : Value → Shared → Prop} {W : WX} {t : XK → TE} {p1 p2 : Pos}
    (J : Inv X pins σ H s) (L : LamS X.env.scope scope) (hA : X.A.guards = some []) (ef : s.heap.get? f = some (PySem.W.kla_obj "<lambda>" (lamQ X) params body scope (cloFrom X.env.cells scope.names []) pm d ct)) (nf : H f = none) (off : f ∉ frs X.stack)
    (nobind : bindArgs (PySem.W.kla_fn "<lambda>" (lamQ X) params body scope (cloFrom X.env.cells scope.names []) pm (.ref d) ct) ⟨[], []⟩ = pure [])
    (tk : Takes ((cxOf CXg X.prog X.w X.K X.mg X.base Ng qg sg g cdg X.A X.stack s H Eg).tr pn xe) W) (hr : Room (k + 1) (X.A.deeper (envOfC qg sg s.heap.objs.size g cdg)))
    (hb : ∀ (A : Around) (outer : List Env) (s : Shared) (H : Hp) (E : XK), A.guards = some [] → Room k (A.deeper (lamEnv X scope s.heap.objs.size f d)) → PE (lamCx X A outer s H E scope f d) body (t E))
    (hN : Ng[i]? = some a) (hv : Vis sg a) (hd : (a == ("__debug__" : Str)) = false := by decide) (hcd : (a == ("__classdict__" : Str)) = false := by decide) :
    PE ((cxOf CXg X.prog X.w X.K X.mg X.base Ng qg sg g cdg X.A X.stack s H Eg).tr pn xe) (.Call (.Name a p1) [] [] p2) (fun σz Hz Q => σz[i]? = some (some (.ref f)) ∧ Hz d = some (CodeO d (lamQ X)) ∧ t (WE W σz) σ Hz Q) := by
  constructor
  intro pz sz σz Hz Q Jz h
  rcases h with ⟨h1, h2, h3⟩
  apply wpAny_Call_Name_kw
  refine thn ((pe_var (pos := p1) (i := i) hN hv hd hcd).run pz sz σz Hz (fun v H' => v = .ref f ∧ H' = Hz) Jz ⟨.ref f, h1, rfl, rfl⟩) ?_
  rintro u s1 ⟨v, H1, J1, ru, rfl, rfl⟩
  obtain rfl : u = Value.ref f := ru
  have at1 := J1.base.keep f _ ef nf off (fun z => nomatch (show f ∈ ([] : List Addr) from z))
  apply PySem.W.callWith_F0 ⟨_, _, _, _, at1⟩
  obtain ⟨⟨oc, vs, tt, k1, k2, k3⟩, _, _⟩ := J1.hok d _ h2
  have main : codeAny (model X.prog X.w) (X.A.deeper (envOfC qg sg s.heap.objs.size g cdg)) (.call (.ref f) ⟨[], []⟩) (CR (L2.CX X.prog X.w) (envOfC qg sg s.heap.objs.size g cdg :: X.stack) X.prog X.w H1 s1 Q (WE W σz)) s1 := by
    apply PySem.W.kla_callFunE hr.depth at1 rfl L.co L.gen rfl ⟨d, oc, vs, tt, rfl, k1, k2, k3⟩
    rw [nobind]
    refine wpAny_pure (wpAny_newFunctionEnv (fun y hy => (L.own y hy).2) (fun y hy => absurd hy (by simp)) (fun h₁ hns hsb => ⟨J1.nolimit.fresh _ hsb, ?_⟩) L.kind)
    show codeAny _ _ (.expr body (lamEnv X scope s1.heap.objs.size f d)) _ _
    have J2 := lam_start2 (E := WE W σz) (c' := d) (f := f) (tk := s1.toks + ([] : List (Str × Value)).length) J L J1.env0 hr.hd (show Un (frs X.stack) [] H H1 s.heap s1.heap from J1.base) hns (fun b o e => hsb.extBut b o (Nat.ne_of_lt (Heap.lt_size e)) (Heap.get?_push_of_some _ e))
    apply PySem.W.kla_codeExpr
    refine wpAny_mono ((hb (X.A.deeper (envOfC qg sg s.heap.objs.size g cdg)) _ s1 H1 (WE W σz) hA (hr.deeper _)).run [] _ _ H1 Q J2 h3) ?_ fun e s' q => q
    rintro v s' ⟨w', H', J', rv, q⟩
    exact ⟨w', H', J'.os, J'.bare, J'.base, J'.hok, rv, q⟩
  apply wpAny_call
  refine codeAny_mono main ?_
  rintro (er | fl) s' q
  · exact passAt tk σz pz H1 s1 er s' J1 q
  · rcases fl with _ | _ | _ | u
    · exact q.elim
    · exact q.elim
    · exact q.elim
    · exact J1.after q
end
end Lz
set_option maxRecDepth 100000
set_option maxHeartbeats 2000000
namespace Pz
open PySem PySem.Spec PyProof.Rows L2 TL Lz
variable [PenC]
abbrev LAct := (Str → List (Str × PyData) → Prop) → (PyData → Prop) → Prop
def LAct.Mono (A : LAct) : Prop := ∀ e e' k k', (∀ c fs, e c fs → e' c fs) → (∀ d, k d → k' d) → A e k → A e' k'
def wAct (i : Nat) (f : Addr) (W0 : Addr → Prop) (H0 : Hp) (A : LAct) : DE := fun Ed sl st Q => nthS sl i = some (.l f W0 H0) ∧ A (fun c fs => Ed c fs sl st) fun d => Q (.d d) st
theorem wAct_ap {i : Nat} {f : Addr} {W0 : Addr → Prop} {H0 : Hp} {A : LAct} {Ed : DX} {sl : Sls} {st : Sto} {Q : DK} : wAct i f W0 H0 A Ed sl st Q = (nthS sl i = some (.l f W0 H0) ∧ A (fun c fs => Ed c fs sl st) fun d => Q (.d d) st) := rfl
structure Acts (X : Cx) (a : Str) (f : Addr) (W0 : Addr → Prop) (H0 : Hp) (A : LAct) : Prop where
  run : ∀ (W : WXs) (pn : List (Addr × Obj)) (xe : Value → Shared → Prop) (p1 p2 : Pos), Takes (X.tr pn xe) W → DEx (X.tr pn xe) W (.Call (.Name a p1) [] [] p2) (wAct 0 f W0 H0 A)
def LamAt (base : Heap) (mg : Str → Option Value) (c : Addr) (q : Str) : Prop := ∃ P, LamX.TabB base mg c P ∧ (P, q) ∈ TabC.T ∧ ∀ p ∈ TabC.T, p.1 = P → p.2 = q
def HeardD (P : Program) (w : World) (K : Frag) (mg : Str → Option Value) (base : Heap) (k : Nat) (g : Addr) (x : Str) (st : Stmt) (N : List Str) (a : Str) (Φ : LAct → (PyData → Prop) → Prop) : Prop :=
  ∀ (cdv : Value) (A : Around) (outer : List Env) (s : Shared) (H : Hp) (E : XK) (Z0 : Zs) (f : Addr) (W0 : Addr → Prop) (H0 : Hp) (Ar : LAct), A.guards = some [] → Room k (A.deeper (envOfC x (defScope st) s.heap.objs.size g cdv)) → Z0.st.length = 0 → Ar.Mono →
    Acts (cxOf CX0 P w K mg base N x (defScope st) g cdv A outer s H E).nox a f W0 H0 Ar →
    ∃ τ : DS, DSs (cxOf CX0 P w K mg base N x (defScope st) g cdv A outer s H E).nox W0s Z0 (defBody st) τ ∧ ∀ Qd : DK, Φ Ar (fun d => Qd (.d d) []) → τ (endD 0 Qd) (startS N [.l f W0 H0]) []
where W0s : WXs := fun _ _ _ _ => False
def datO : Option Sl → Option Sl
  | some (.d x) => some (.d x)
  | some (.f ns) => some (.f ns)
  | _ => none
def datQ (k : PyData → Prop) : DK := fun s st => match s, st with
  | .d d, [] => k d
  | _, _ => False
theorem datQ_d {k : PyData → Prop} {d : PyData} : datQ k (.d d) [] = k d := rfl
def mkAct (τ : DE) (sl : Sls) : LAct := fun e k => ∃ (e0 : Str → List (Str × PyData) → Prop) (k0 : PyData → Prop), (∀ c fs, e0 c fs → e c fs) ∧ (∀ d, k0 d → k d) ∧ τ (fun c fs _ _ => e0 c fs) sl [] fun s st => Ret 0 s st (datQ k0)
theorem mkAct_mono {τ : DE} {sl : Sls} : (mkAct τ sl).Mono := fun e e' k k' h1 h2 ⟨e0, k0, h3, h4, h5⟩ => ⟨e0, k0, fun c fs q => h1 c fs (h3 c fs q), fun d q => h2 d (h4 d q), h5⟩
theorem mkAct_of {τ : DE} {sl : Sls} {e : Str → List (Str × PyData) → Prop} {k : PyData → Prop} (h : τ (fun c fs _ _ => e c fs) sl [] fun s st => Ret 0 s st (datQ k)) : mkAct τ sl e k := ⟨e, k, fun _ _ q => q, fun _ q => q, h⟩
def wLam (Φ : LAct → (PyData → Prop) → Prop) (τ : DE) : DE := fun Ed sl st Q => Φ (mkAct τ (sl.map datO)) fun d => Q (.d d) st
theorem wLam_ap {Φ : LAct → (PyData → Prop) → Prop} {τ : DE} {Ed : DX} {sl : Sls} {st : Sto} {Q : DK} : wLam Φ τ Ed sl st Q = Φ (mkAct τ (sl.map datO)) (fun d => Q (.d d) st) := rfl
theorem slok_dat {K : Frag} {Z Z' : Zs} {σ : L2.St} {sl : Sls} (s : Stay Z.W Z'.W Z.H Z'.H) (so : SlOk K Z σ sl) : SlOk K Z' σ (sl.map datO) := by
  refine ⟨by rw [List.length_map]; exact so.len, fun i t e => ?_⟩
  rw [List.getElem?_map] at e
  cases q : sl[i]? with
  | none => rw [q] at e; cases e
  | some o =>
    rw [q] at e
    simp only [Option.map_some, Option.some.injEq] at e
    cases o with
    | none => cases e
    | some y =>
      obtain ⟨v, e1, r⟩ := so.has i y q
      cases y with
      | d x => cases e; exact ⟨v, e1, Im.tr s r⟩
      | f ns => cases e; obtain ⟨a, q1, q2⟩ := r; exact ⟨v, e1, a, q1, q2.tr s⟩
      | _ => cases e
theorem Stay.refl {W : Addr → Prop} {H : Hp} : Stay W W H H := Stay.less fun _ w => w
section
variable {K : Frag} {Z : Zs} {H1 : Hp} {P c : Addr} {q : Str}
theorem grow_le (ok : Ok K Z) (g : Grown Z.H H1 P c q) : Le Z ⟨Z.φ, Z.st, H1, Z.F⟩ := by
  rcases g with rfl | ⟨ps, qs, e1, tr, e2, rfl⟩
  · exact .refl ok
  · have cP : P ≠ c := ne_of_none e1 e2
    refine ⟨⟨[], by simp, fun _ h => by cases h⟩, ok.len.symm, fun h c e => ⟨c, e, Iff.rfl⟩, fun b o e _ nt => ?_, rfl, fun b o e => ?_⟩
    · have bP : b ≠ P := fun z => by
        rw [z, e1] at e
        exact nt ps (Option.some.inj e).symm
      show upd _ _ _ b = _
      rw [upd_ne (ne_of_none e e2), upd_ne bP]
      exact e
    · show ∃ o', upd (upd Z.H P (.tbl _)) c (LamX.CodeO c q) b = some o'
      rw [upd_ne (ne_of_none e e2)]
      by_cases bP : b = P
      · rw [bP, upd_same]; exact ⟨_, rfl⟩
      · rw [upd_ne bP]; exact ⟨o, e⟩
theorem grow_ok (ok : Ok K Z) (g : Grown Z.H H1 P c q) (T1 : LamX.Tabs TabC.T H1) : Ok K ⟨Z.φ, Z.st, H1, Z.F⟩ := by
  have l := grow_le ok g
  refine ⟨ok.len, ok.nd, fun h a c e1 e2 => ctok_st l.stay (fun r => r.tr l) (fun o e nt => ?_) (fun o e => l.dom a o e) (ok.ct h a c e1 e2), fun a f => ?_, ok.fd, T1, fun b ps e => ?_, fun p hp ps e pos d hd w => ?_, fun b xs e w => ?_⟩
  · rcases g with rfl | ⟨ps, qs, g1, tr, g2, rfl⟩
    · exact e
    · have bP : a ≠ P := fun z => by
        rw [z, g1] at e
        exact nt ps (Option.some.inj e).symm
      show upd _ _ _ a = _
      rw [upd_ne (ne_of_none e g2), upd_ne bP]
      exact e
  · obtain ⟨o, e⟩ := ok.fo a f
    exact l.dom a o e
  · rcases g with rfl | ⟨us, qs, e1, tr, e2, rfl⟩
    · exact ok.tb.2.1 b ps e
    · have e : upd (upd Z.H P (.tbl _)) c (LamX.CodeO c q) b = some (.tbl ps) := e
      by_cases bc : b = c
      · rw [bc, upd_same] at e
        exact absurd (Option.some.inj e) (LamX.codeO_ne ps)
      · rw [upd_ne bc] at e
        by_cases bP : b = P
        · rw [bP]; exact ok.tb.2.1 P us e1
        · rw [upd_ne bP] at e
          exact ok.tb.2.1 b ps e
  · have w : Z.W d := w
    rcases g with rfl | ⟨us, qp, e1, tr, e2, rfl⟩
    · exact ok.tb.2.2.1 p hp ps e pos d hd w
    · have e : upd (upd Z.H P (.tbl _)) c (LamX.CodeO c q) p.1 = some (.tbl ps) := e
      obtain ⟨vs, a1, a2, a3⟩ := ok.tb.1 p hp
      rw [upd_ne (ne_of_none a1 e2)] at e
      by_cases pP : p.1 = P
      · rw [pP] at a1 e
        rw [e1] at a1
        cases a1
        rw [upd_same] at e
        cases e
        rw [show (us ++ #[rawInt qp.line, rawInt qp.col, .ref c]).toList = us.toList ++ [rawInt qp.line, rawInt qp.col, .ref c] by simp] at hd
        rcases LamX.among_app _ tr hd with z | z
        · exact ok.tb.2.2.1 p hp us (by rw [pP]; exact e1) pos d z w
        · cases z
          exact ok.nw e2 w
      · rw [upd_ne pP] at e
        exact ok.tb.2.2.1 p hp ps e pos d hd w
  · have w : Z.W b := w
    rcases g with rfl | ⟨us, qp, e1, tr, e2, rfl⟩
    · exact ok.tb.2.2.2 b xs e w
    · have e : upd (upd Z.H P (.tbl _)) c (LamX.CodeO c q) b = some (.tup xs) := e
      by_cases bc : b = c
      · rw [bc, upd_same] at e
        unfold LamX.CodeO at e
        cases e
      · rw [upd_ne bc] at e
        by_cases bP : b = P
        · rw [bP, upd_same] at e
          cases e
        · rw [upd_ne bP] at e
          exact ok.tb.2.2.2 b xs e w
end
section
variable {X : Cx} {E : WXs} {k : Nat} {x a : Str} {g c P : Addr} {fd : FuncData} {st : Stmt} {Ng : List Str} {Φ : LAct → (PyData → Prop) → Prop} {τ : DE} {params : Arguments} {body : Expr} {scope : Scope} {p lpos pos : Pos}
theorem datQ_at {Z : Zs} {K : Frag} {v : V} {s : Sl} {k : PyData → Prop} (r : Rp K Z v s) (h : datQ k s Z.st) : ∃ d, s = .d d ∧ Z.st = [] ∧ k d := by
  unfold datQ at h
  split at h
  · rename_i e
    exact ⟨_, rfl, e, h⟩
  · exact h.elim
theorem de_lam (F : L2.Fun X.K x x st g fd) (Sg : FnScope Ng [a] (defScope st)) (hm : X.mg x = some (.ref g)) (hb : Binds X.K fd [a] []) (hH : HeardD X.prog X.w X.K X.mg X.base (k + 1) g x st Ng a Φ)
    (hl : LamAt X.base X.mg c (lamQ X)) (ec : X.env.code = .ref c) (hA : X.A.guards = some []) (hr : Room (k + 2) X.A) (hg : Gl X x) (L : LamX.LamS X.env.scope scope)
    (hbody : ∀ (A : Around) (outer : List Env) (s : Shared) (H : Hp) (E : XK) (f d : Addr), A.guards = some [] → Room k (A.deeper (LamX.lamEnv X scope s.heap.objs.size f d)) → DEx (LamX.lamCx X A outer s H E scope f d) (fun cls dx _ H => E cls dx H) body τ)
    (nobind : ∀ (q : Str) (cl : List (Str × Addr)) (pm cv ctv : Value), bindArgs (PySem.W.kla_fn "<lambda>" q params body scope cl pm cv ctv) ⟨[], []⟩ = pure [])
    (hNa : Ng[0]? = some a := by rfl) (hva : Vis (defScope st) a := by first | exact .inl rfl | exact .inr (.inl rfl)) (nodef : defaultsOf params X.env = ([], []) := by rfl) (hdb : (x == ("__debug__" : Str)) = false := by decide) (hd1 : (a == ("__debug__" : Str)) = false := by decide) (hd2 : (a == ("__classdict__" : Str)) = false := by decide) :
    DEx X E (.Call (.Name x p) [.Lambda params body scope lpos] [] pos) (wLam Φ τ) := by
  obtain ⟨P, TB, inT, one⟩ := hl
  refine ⟨⟨fun pins s σ H Q I ⟨Z, sl, Qd, Ed, h, ok, so, w, kq, kx⟩ => ?_⟩⟩
  subst h
  obtain ⟨oc, od, kV, doc, pm0, an, cdv, ct0, osl, efd, lk, hcd⟩ := F.ex
  subst efd
  apply wpAny_Call_Name_kw
  refine ld_glob I hg hm ?_ hdb
  refine PySem.W.callWith_K (h₀ := X.base) I.ok.mod.kin F.kp ?_ (by rfl) (by rfl)
  show wpAny _ _ (spliced ((false, eval (.Lambda params body scope lpos) X.env) :: backTo pos (starEach [] X.env))) _ _ s
  apply Calls.spliced_cons
  refine Lz.make I TB ec inT one ok.tb.1 nodef (L.has I.ok) fun f d pm ct H1 s1 J gr T1 ef nf off hd how => ?_
  refine Calls.spliced_nil ⟨J.kIn, ?_⟩
  have l1 := grow_le ok gr
  have ok1 := grow_ok ok gr T1
  have nd : ¬ Z.W d := by
    rcases how with z | ⟨ps, pos', z1, z2⟩
    · exact ok.nw z
    · exact ok.tb.2.2.1 _ inT ps z1 pos' d z2
  obtain ⟨Z1, eZ1⟩ : ∃ Z1 : Zs, Z1 = ⟨Z.φ, Z.st, H1, Z.F⟩ := ⟨_, rfl⟩
  rw [← eZ1] at l1 ok1
  have eH : Z1.H = H1 := by rw [eZ1]
  have est : Z1.st = Z.st := by rw [eZ1]
  have nd1 : ¬ Z1.W d := by rw [eZ1]; exact nd
  clear eZ1
  subst eH
  have hb0 : ∀ h ∈ ([] : List Nat), h < Z1.φ.length := fun h m => by cases m
  have okc : Ok X.K (Z1.loc [] []) := loc_Ok ok1 rfl hb0 .nil (fun c m => by cases m)
  have eW : (Z1.loc [] []).W = Z1.W := loc_W ok1 rfl hb0
  have so1 : SlOk X.K Z1 σ sl := so.tr l1
  obtain ⟨Ar, eAr⟩ : ∃ Ar : LAct, Ar = mkAct τ (sl.map datO) := ⟨_, rfl⟩
  have w2 : Φ Ar fun d => Qd (.d d) Z.st := by rw [eAr]; exact w
  have mono : Ar.Mono := by rw [eAr]; exact mkAct_mono
  have main : codeAny (model X.prog X.w) X.A (.call (.ref g) ⟨[.ref f], []⟩) (CR CX0 X.stack X.prog X.w Z1.H s1 Q fun _ _ _ => False) s1 := by
    refine LamX.run_ofS (N := Ng) (ps := [a]) (us := [.ref f]) (vs := [.ref f]) lk hcd Sg hr J.env0 (hb s1 [.ref f] J.kIn rfl) (.cons rfl .nil) rfl fun hr1 => ?_
    have acts : Acts (cxOf CX0 X.prog X.w X.K X.mg X.base Ng x (defScope st) g cdv X.A X.stack s1 Z1.H fun _ _ _ => False).nox a f Z1.W Z1.H Ar := ⟨fun W pn xe q1 q2 tk => by
      refine ⟨peI (act_go (CXg := CX0) (Eg := fun _ _ _ => False) (i := 0) (t := fun E => upE X.K (fun cls dx _ H => E cls dx H) τ) J L hA ef nf off (nobind _ _ _ _ _) tk hr1 (fun A outer s H E hg' hr' => (hbody A outer s H E f d hg' hr').run) hNa hva hd1 hd2) fun σz Hz Q' ⟨Zc, slc, Qc, Ec, hz, okz, soz, wz, kz, kxz⟩ => ?_⟩
      subst hz
      obtain ⟨v, e1, ev, sy⟩ := soz.has 0 _ (nthS_get wz.1)
      subst ev
      have hb1 : ∀ h ∈ ([] : List Nat), h < Zc.φ.length := fun h m => by cases m
      have okl : Ok X.K (Zc.loc [] []) := loc_Ok okz rfl hb1 .nil (fun c m => by cases m)
      have eWl : (Zc.loc [] []).W = Zc.W := loc_W okz rfl hb1
      have wa := wz.2
      rw [eAr] at wa
      obtain ⟨e0, k0, he0, hk0, wa⟩ := wa
      refine ⟨e1, sy.f _ _ hd nd1 LamX.codeO_ne, Zc.loc [] [], sl.map datO, _, _, rfl, okl, slok_dat (Z' := Zc.loc [] []) (by rw [eWl]; exact sy) so1, wa, fun Z' v s l' ok' r' q' => ?_, fun Z' σ' sl' c x dx fs l' ok' so' xd cv q' => ?_⟩
      · refine ret_ok (n := 0) (Z0 := Zc.loc [] []) rfl l' ok' r' q' fun Z2 v2 s2 l2 ok2 r2 q2 => ?_
        obtain ⟨dd, rfl, hst, qq⟩ := datQ_at r2 q2
        have lb := back_le okz rfl hb1 .nil l2 ok2
        have okb := back_Ok okz rfl hb1 .nil l2 ok2 (fun c m => by rw [hst] at m; cases m)
        have rb := back_rp okz rfl hb1 .nil l2 ok2 r2
        refine kz (Zc.back Z2 []) v2 (.d dd) lb okb rb ?_
        show Qc (.d dd) (putAll Zc.st [] Z2.st)
        rw [hst]
        show Qc (.d dd) (Zc.st ++ [])
        rw [List.append_nil]
        exact hk0 _ qq
      · have hW : ∀ b, (Zs.mk [] [] Z'.H Z'.F).W b → Z'.W b := fun b w => by
          rcases w with ⟨i, c, e1, _⟩ | w
          · cases (List.getElem?_nil ▸ e1)
          · exact .inr w
        have lc : Le (Zc.loc [] []) (Zs.mk [] [] Z'.H Z'.F) := ⟨⟨[], rfl, fun _ h => by cases h⟩, rfl, fun h c e => (by cases (show ([] : Sto)[h]? = some c from e)), l'.frm, l'.fgn, l'.dom⟩
        have okc' : Ok X.K (Zs.mk [] [] Z'.H Z'.F) := ⟨rfl, List.nodup_nil, fun h a c e1 _ => (by cases (List.getElem?_nil ▸ e1)), ok'.fo, fun a m => (by cases m), ok'.tb.less hW⟩
        have xdc := xd_cut (Z := Z') (Z' := Zs.mk [] [] Z'.H Z'.F) rfl hW xd
        have lb := back_le okz rfl hb1 .nil lc okc'
        have okb := back_Ok okz rfl hb1 .nil lc okc' (fun c m => by cases m)
        refine kxz (Zc.back (Zs.mk [] [] Z'.H Z'.F) []) σz slc c x dx fs lb okb (soz.tr lb) (xd_back okz rfl hb1 .nil lc okc' xdc) cv ?_
        show Ec x fs slc (Zc.st ++ [])
        rw [List.append_nil]
        exact he0 _ _ q'⟩
    obtain ⟨τh, hds, hq⟩ := hH cdv X.A X.stack s1 Z1.H (fun _ _ _ => False) (Z1.loc [] []) f Z1.W Z1.H Ar hA hr1 rfl mono acts
    let Qd' : DK := fun s cs => match s, cs with
      | .d d, [] => Qd (.d d) Z1.st
      | _, _ => False
    have w3 : Φ Ar (fun d => Qd' (.d d) []) := by
      show Φ Ar (fun d => Qd (.d d) Z1.st)
      rw [est]
      exact w2
    have hv : Rp X.K (Z1.loc [] []) (.ref f) (.l f Z1.W Z1.H) := ⟨rfl, by rw [eW]; exact Stay.refl⟩
    refine ⟨_, hds.run.nox, Z1.loc [] [], startS Ng [.l f Z1.W Z1.H], _, rfl, .refl okc, okc, startS_ok (.cons hv .nil), hq Qd' w3, EndsOk.ret rfl fun Z' v s l' ok' r' q' => ?_⟩
    cases s with
    | d dd =>
      have hst : Z'.st = [] := by
        cases e : Z'.st with
        | nil => rfl
        | cons _ _ => rw [e] at q'; exact q'.elim
      have hq2 : Qd (.d dd) Z1.st := by
        rw [hst] at q'
        exact q'
      have lb := back_le ok1 rfl hb0 .nil l' ok'
      have okb := back_Ok ok1 rfl hb0 .nil l' ok' (fun c m => by rw [hst] at m; cases m)
      have rb := back_rp ok1 rfl hb0 .nil l' ok' r'
      refine kq (Z1.back Z' []) v (.d dd) (l1.trans lb) okb rb ?_
      show Qd (.d dd) (putAll Z1.st [] Z'.st)
      rw [hst]
      show Qd (.d dd) (Z1.st ++ [])
      rw [List.append_nil]
      exact hq2
    | _ => exact q'.elim
  apply wpAny_call
  refine codeAny_mono main ?_
  rintro (er | fl) s' q
  · exact q.elim
  · rcases fl with _ | _ | _ | u
    · exact q.elim
    · exact q.elim
    · exact q.elim
    · exact J.after q
end
end Pz
set_option maxRecDepth 100000
set_option maxHeartbeats 2000000
namespace Pz
open PySem PySem.Spec PyProof.Rows L2 TL Lz
structure FunC (K : Frag) (x qual : Str) (st : Stmt) (f : Addr) (fd : FuncData) (c : Addr) : Prop where
  ex : ∃ (oc : Value) (od : Option Addr) (kV doc pm : Value) (an : Option Addr) (ct : Value) (osl : Array (Option Value)),
    fd = PySem.W.fnOf x qual (defArgs st) (defBody st) (defScope st) .none kV doc pm an (.ref c) ct ∧ K.lookup f = some ⟨oc, od, .func fd, osl⟩ ∧ PySem.W.codeIn K (.ref c) qual = true
  kp : PySem.W.keepIn K (.ref f) = true
theorem FunC.F {K : Frag} {x qual : Str} {st : Stmt} {f : Addr} {fd : FuncData} {c : Addr} (h : FunC K x qual st f fd c) : L2.Fun K x qual st f fd :=
  ⟨let ⟨oc, od, kV, doc, pm, an, ct, osl, r⟩ := h.ex; ⟨oc, od, kV, doc, pm, an, .ref c, ct, osl, r⟩, h.kp⟩
structure FAtC (K : Frag) (mg : Str → Option Value) (x : Str) (st : Stmt) (ps : List Str) (f : Addr) (fd : FuncData) (c : Addr) : Prop where
  C : FunC K x x st f fd c
  F : L2.Fun K x x st f fd
  g : mg x = some (.ref f)
  b : Binds K fd ps []
abbrev qLam (x : Str) : Str := x ++ ".<locals>." ++ "<lambda>"
section
variable [PenC]
variable {P : Program} {w : World} {K : Frag} {mg : Str → Option Value} {base : Heap} {CX : CXT} {j k : Nat} {f c : Addr} {fd : FuncData} {ps N : List Str} {sp sp' : Sp} {dsp : DSp} {x qual : Str} {st : Stmt}
theorem FnG.ofC (F : FunC K x qual st f fd c) (S : FnScope N ps (defScope st)) (len : ∀ vs H Q E, sp vs H Q E → vs.length = ps.length)
    (body : ∀ (A : Around) (outer : List Env) (s : Shared) (H : Hp) (vs : List V) (Q : VK) (E : XK), A.guards = some [] → Room k (A.deeper (envOfC qual (defScope st) s.heap.objs.size f (.ref c))) → sp vs H Q E →
      ∃ t, PSs (cxOf CX P w K mg base N qual (defScope st) f (.ref c) A outer s H E) (defBody st) t ∧ t { nx := fun _ H' => Q .non H', rt := Q } (start N vs) H) :
    FnG P w K mg base CX (k + 1) f fd ps sp := by
  obtain ⟨oc, od, kV, doc, pm, an, ct, osl, rfl, lk, hcd⟩ := F.ex
  refine ⟨len, fun A hg hr outer s H e0 args us hb vs Q E rv q => ?_⟩
  have inK : K.In s.heap := e0.mod.kin.keeps fun b o e => (e0.bs b o e).1
  have par : ∀ y ∈ ps.zip us, (defScope st).names.lookup y.1 = some .local ∨ ((defScope st).names.lookup y.1 = some .cell ∧ ((cellsFrom (s.heap.objs.size + 1) (defScope st).names []).lookup y.1).isSome = true) := by
    rintro ⟨n, u⟩ hy
    rcases S.par n (List.of_mem_zip hy).1 with z | z
    · exact .inl z
    · exact .inr ⟨z, PySem.W.cellsFrom_some _ _ _ (.inl z)⟩
  apply codeAny_call_function hr.depth (inK _ _ lk) rfl S.co S.gen rfl (PySem.W.codeRec_of inK hcd) (hb _ _ _ _ _)
  apply wpAny_newFunctionEnv_cells S.kind par
  rintro env rfl s1 x
  refine ⟨(e0.mod.nolimit.keeps fun b o e => (e0.bs b o e).1).keeps x.toInCall.keep, codeAny_func ?_⟩
  obtain ⟨t, ht, hq⟩ := body A outer s H vs Q E hg (hr.deeper _) q
  have I := inv_start (CX := CX) (E := E) S hr.hd e0 (len _ _ _ _ q) rv x
  refine wpAny_mono (ht.run [] s1 (start N vs) H _ I hq) ?_ fun e s' z => z
  rintro (_ | _ | _ | u) s' z
  · obtain ⟨σ', H', J, z⟩ := z
    exact ⟨.non, H', J.os, J.bare, J.base, J.hok, rfl, z⟩
  · obtain ⟨_, _, _, z⟩ := z
    exact z.elim
  · obtain ⟨_, _, _, z⟩ := z
    exact z.elim
  · obtain ⟨v, σ', H', J, r, z⟩ := z
    exact ⟨v, H', J.os, J.bare, J.base, J.hok, r, z⟩
theorem FnD.ofC0 (F : FunC K x qual st f fd c) (S : FnScope N ps (defScope st)) (n0 : Nat) (τ : DS)
    (hb : ∀ (A : Around) (outer : List Env) (s : Shared) (H : Hp) (E : XK) (Z0 : Zs), A.guards = some [] → Room k (A.deeper (envOfC qual (defScope st) s.heap.objs.size f (.ref c))) → Z0.st.length = n0 →
      DSs (cxOf CX0 P w K mg base N qual (defScope st) f (.ref c) A outer s H E).nox W0 Z0 (defBody st) τ)
    (hw : ∀ (ss : List Sl) (cs : Sto) (Qd : DK) (Ed : DXF), dsp ss cs Qd Ed → ss.length = ps.length → cs.length = n0 ∧ τ ⟨fun _ st => Ret n0 (.d .none) st Qd, fun s st => Ret n0 s st Qd, fun _ _ _ _ => False, fun _ _ => False, fun _ _ => False⟩ (startS N ss) cs) :
    FnD P w K mg base CX0 (k + 1) f fd ps dsp := by
  refine FnG.ofC F S (fun vs H Q E ⟨Z, ss, Qd, Ed, _, _, ra, hl, _⟩ => ra.length.trans hl) fun A outer s H vs Q E hg hr ⟨Z, ss, Qd, Ed, e, ok, ra, hl, hd, kQ, kE⟩ => ?_
  obtain ⟨hn, q⟩ := hw ss Z.st Qd Ed hd hl
  refine ⟨_, (hb A outer s H E Z hg hr hn).run.nox, ?_⟩
  exact ⟨Z, startS N ss, _, e, .refl ok, ok, startS_ok ra, q, .ret hn kQ⟩
end
def OnlyT (cs : List (Addr × Addr)) (H : Hp) : Prop := (∀ p ∈ cs, H p.2 = some (.tbl #[])) ∧ ∀ b, H b = none ∨ (∃ p ∈ cs, p.2 = b) ∨ ∃ o xs, H b = some (.frz o (.lst xs))
theorem lawGT {P : Program} {w : World} {K : Frag} {mg mb : Str → Option Value} {CX : CXT} {k : Nat} {fa a : Addr} {fd : FuncData} {x : Str} {sp : Sp} {s₁ : Shared} {vs : List Value} {ns : List Int} {cs : List (Addr × Addr)}
    (KX : K.In s₁.heap) (hns : s₁.heap.Ns mainGlobals mg) (hb : s₁.heap.Ns builtinsNs mb) (hbb : ∀ x : Str, x ≠ "__name__" → mb x = bootBuiltins x) (hlim : s₁.heap.NoLimit) (hg : s₁.gens = #[])
    (tabs : ∀ p ∈ cs, s₁.heap.get? p.2 = some { cls := .none, data := .fields #[] }) (offK : ∀ p ∈ cs, K.lookup p.2 = none) (codes : ∀ p ∈ cs, PySem.W.CodeHd s₁.heap p.1 p.2)
    (main : ∃ (bm : Addr) (ob : Obj), mg "__builtins__" = some (.ref bm) ∧ bm ≠ builtinsNs ∧ s₁.heap.get? bm = some ob ∧ ob.cls = .type "module" ∧ ob.dict = some builtinsNs ∧ ob.data = .plain)
    (ha : s₁.heap.get? a = some { cls := .type "list", data := .seq vs.toArray }) (hi : IntsAre vs ns) (hl : ns.length ≤ sizeLine) (hr : Room k callerA)
    (F : ∀ base : Heap, K.In base → base.Ns mainGlobals mg → (∀ p ∈ cs, LamX.TabB base mg p.1 p.2) → FnG P w K mg base CX k fa fd [x] sp) (hbind : ∀ (s : Shared) (u : Value), BindsTo s fd ⟨[u], []⟩ [(x, u)])
    (hsp : ∀ H : Hp, OnlyT cs H → SqL K H a (ns.map V.int) → sp [.ref a] H (fun v _ => v = .bl true) fun _ _ _ => False)
    (hCX : ∀ H e s', CX [] H s₁ (fun _ _ _ => False) e s' → False) :
    codeAny (model P w) callerA (.call (.ref fa) ⟨[.ref a], []⟩) (fun r s' => r = .ok (.ret (.bool true)) ∧ OldK s₁.heap s'.heap ∧ s'.os = s₁.os ∧ AllBare s'.gens) s₁ := by
  have vl := hi.length
  have na : ∀ p ∈ cs, p.2 ≠ a := fun p hp z => by
    have := tabs p hp
    rw [z, ha] at this
    cases this
  obtain ⟨H, hT, hO, hS, hok, one⟩ : ∃ H : Hp, (∀ p ∈ cs, H p.2 = some (.tbl #[])) ∧ (∀ b, H b = none ∨ (∃ p ∈ cs, p.2 = b) ∨ ∃ o xs, H b = some (.frz o (.lst xs))) ∧ SqL K H a (ns.map V.int) ∧ HOk P w H s₁.heap ∧ ∀ b o, H b = some o → (b = a ∧ K.lookup a = none) ∨ ∃ p ∈ cs, p.2 = b := by
    classical
    cases q : K.lookup a with
    | some o =>
      have e := KX a o q
      rw [ha] at e
      cases e
      refine ⟨fun b => if ∃ p ∈ cs, p.2 = b then some (.tbl #[]) else none, fun p hp => if_pos ⟨p, hp, rfl⟩, fun b => ?_, .inr ⟨_, vs.toArray, _, q, rfl, rfl, rfl, by simpa [vl] using hl, by simpa using vals_ints hi⟩, fun b u z => ?_, fun b o z => ?_⟩
      · by_cases hb : ∃ p ∈ cs, p.2 = b
        · exact .inr (.inl hb)
        · exact .inl (if_neg hb)
      · by_cases hb : ∃ p ∈ cs, p.2 = b
        · cases (if_pos hb).symm.trans z
          obtain ⟨p, hp, rfl⟩ := hb
          exact tabs p hp
        · cases (if_neg hb).symm.trans z
      · by_cases hb : ∃ p ∈ cs, p.2 = b
        · exact .inr hb
        · cases (if_neg hb).symm.trans z
    | none =>
      refine ⟨fun b => if b = a then some (.frz { cls := .type "list", data := .seq vs.toArray } (.lst (ns.map V.int))) else if ∃ p ∈ cs, p.2 = b then some (.tbl #[]) else none, fun p hp => ?_, fun b => ?_, .inl (.inr ⟨_, if_pos rfl⟩), fun b u z => ?_, fun b u z => ?_⟩
      · exact (if_neg (na p hp)).trans (if_pos ⟨p, hp, rfl⟩)
      · by_cases e : b = a
        · exact .inr (.inr ⟨_, _, if_pos e⟩)
        · by_cases hb : ∃ p ∈ cs, p.2 = b
          · exact .inr (.inl hb)
          · exact .inl ((if_neg e).trans (if_neg hb))
      · by_cases e : b = a
        · cases (if_pos e).symm.trans z
          subst e
          exact ⟨ha, by simpa using hl, vs, _, vals_ints hi, ha⟩
        · have z1 := (if_neg e).symm.trans z
          by_cases hb : ∃ p ∈ cs, p.2 = b
          · cases (if_pos hb).symm.trans z1
            obtain ⟨p, hp, rfl⟩ := hb
            exact tabs p hp
          · cases (if_neg hb).symm.trans z1
      · by_cases e : b = a
        · exact .inl ⟨e, rfl⟩
        · have z1 := (if_neg e).symm.trans z
          by_cases hb : ∃ p ∈ cs, p.2 = b
          · exact .inr hb
          · cases (if_neg hb).symm.trans z1
  have kept : ∀ {b : Addr} {o : Obj}, s₁.heap.get? b = some o → H b = none → (hidT s₁.heap H).get? b = some o := fun e n => hidT_get e n
  have other : ∀ {b : Addr} {o : Obj}, s₁.heap.get? b = some o → (∀ us n, o.data ≠ .seq us n) → o.data ≠ .fields #[] → H b = none := fun {b o} e d1 d2 => by
    cases q : H b with
    | none => rfl
    | some u =>
      rcases one b u q with ⟨rfl, _⟩ | ⟨p, hp, rfl⟩
      · rw [ha] at e
        cases e
        exact absurd rfl (d1 _ _)
      · rw [tabs p hp] at e
        cases e
        exact absurd rfl d2
  have dict0 : ∀ {b : Addr} {o : Obj} {es : Array DictEntry} {ep : Nat}, s₁.heap.get? b = some o → o.data = .dict es ep → H b = none := fun e d => other e (fun us n z => by rw [d] at z; cases z) (fun z => by rw [d] at z; cases z)
  have names : ∀ {b : Addr} {m : Str → Option Value}, s₁.heap.Ns b m → (hidT s₁.heap H).Ns b m := fun ⟨o, es, ep, e, d, r⟩ => ⟨o, es, ep, kept e (dict0 e d), d, r⟩
  have inK : K.In (hidT s₁.heap H) := fun b o e => kept (KX b o e) (by
    cases q : H b with
    | none => rfl
    | some u =>
      rcases one b u q with ⟨rfl, z⟩ | ⟨p, hp, rfl⟩
      · rw [z] at e; cases e
      · rw [offK p hp] at e; cases e)
  have env : Env0 P w K mg (hidT s₁.heap H) callerA [] s₁ H := by
    obtain ⟨mc, z1, z2⟩ := hlim
    exact ⟨rfl, ⟨inK, names hns, ⟨mb, names hb, hbb⟩, ⟨mc, names z1, z2⟩⟩, (fun b o e => of_hidT e), Nat.le_of_eq (hidT_size _ _), trivial, (fun b (z : b ∈ ([] : List Addr)) => by cases z), hok, AllBare.of_eq hg⟩
  have tb : ∀ p ∈ cs, LamX.TabB (hidT s₁.heap H) mg p.1 p.2 := fun p hp => by
    have hTp := tabs p hp
    refine ⟨?_, ?_, fun z => ?_⟩
    · obtain ⟨o, us, file, tf, fl, tg, inF, tx, tt, e1, r1, r2, r3, r⟩ := codes p hp
      exact ⟨o, us, file, tf, fl, tg, inF, tx, tt, kept e1 (other e1 (fun vs n z => by rw [r2] at z; cases z) (fun z => by rw [r2] at z; cases z; simp at r3)), r1, r2, r3, r⟩
    · obtain ⟨bm, ob, b1, b2, b3, b4, b5, b6⟩ := main
      refine ⟨bm, ob, b1, b2, fun q => ?_, fun q => ?_, kept b3 (other b3 (fun vs n z => by rw [b6] at z; cases z) (fun z => by rw [b6] at z; cases z)), b4, b5, b6⟩
      · obtain ⟨o, es, ep, e, hd, _⟩ := hns
        rw [q, e] at b3
        cases b3
        rw [hd] at b6
        cases b6
      · rw [q, hTp] at b3
        cases b3
        cases b6
    · obtain ⟨o, es, ep, e, hd, _⟩ := hns
      rw [z, hTp] at e
      cases e
      cases hd
  refine codeAny_mono ((F _ inK (names hns) tb).go callerA rfl hr [] s₁ H env ⟨[.ref a], []⟩ [.ref a] (hbind s₁ (.ref a)) [.ref a] _ _ (.cons rfl .nil) (hsp H ⟨hT, hO⟩ hS)) ?_
  rintro (er | fl) s' z
  · exact (hCX H er s' z).elim
  · rcases fl with _ | _ | _ | u
    · exact z.elim
    · exact z.elim
    · exact z.elim
    · obtain ⟨v, H', os, bare, un, hok', r', rfl⟩ := z
      obtain rfl : u = Value.bool true := r'
      have grown : ∀ p ∈ cs, ∃ more : Array Value, s'.heap.get? p.2 = some { cls := .none, data := .fields more } := fun p hp => by
        obtain ⟨more, z⟩ := un.tbls p.2 #[] (hT p hp)
        exact ⟨_, hok' p.2 _ z⟩
      have stay : ∀ b o, (¬ ∃ p ∈ cs, p.2 = b) → s₁.heap.get? b = some o → s'.heap.get? b = some o := fun b o nb e => by
        cases q : H b with
        | none => exact un.keep b o e q (fun z => by cases z) (fun z => by cases z)
        | some c =>
          rcases hO b with z | z | ⟨ob, xs, z⟩
          · rw [q] at z; cases z
          · exact absurd z nb
          · obtain ⟨e1, _⟩ := hok b _ z
            obtain ⟨e2, _⟩ := hok' b _ (un.frzs b ob _ z)
            rw [e] at e1; cases e1
            exact e2
      refine ⟨rfl, ⟨fun b o e => ?_, fun b o e => ?_⟩, os, bare⟩
      · by_cases hb : ∃ p ∈ cs, p.2 = b
        · obtain ⟨p, hp, rfl⟩ := hb
          obtain ⟨more, hm⟩ := grown p hp
          rw [tabs p hp] at e
          cases e
          exact .inr (.inl ⟨((codes p hp).tab (tabs p hp)).isCodeTable, rfl, #[], more, rfl, by rw [Array.empty_append]; exact hm⟩)
        · exact .inl (stay b o hb e)
      · by_cases hb : ∃ p ∈ cs, p.2 = b
        · obtain ⟨p, hp, rfl⟩ := hb
          obtain ⟨more, hm⟩ := grown p hp
          exact ⟨_, hm⟩
        · exact ⟨o, stay b o hb e⟩
def tabIn (K : Frag) (c : Addr) : Option Addr := match K.lookup c with
  | some ⟨_, _, .fields vs, _⟩ => match (vs[11]? : Option Value) with
    | some (Value.ref P) => some P
    | _ => none
  | _ => none
theorem tabIn_of {K : Frag} {c P : Addr} {cl : Value} {od : Option Addr} {vs : Array Value} {sl : Array (Option Value)} (h : K.lookup c = some ⟨cl, od, .fields vs, sl⟩) (e : vs[11]? = some (.ref P)) : tabIn K c = some P := by
  unfold tabIn
  rw [h]
  dsimp only
  rw [e]
def TabAtK (K : Frag) (mg : Str → Option Value) (q : Program) (p : Addr × Addr × Str) : Prop := tabIn K p.1 = some p.2.1 ∧ K.lookup p.2.1 = none ∧
  ∃ (x : Str) (f : Addr) (oc : Value) (od : Option Addr) (fd : FuncData) (osl : Array (Option Value)), (recsOf q).any (fun d => d.name == x) = true ∧ mg x = some (.ref f) ∧ K.lookup f = some ⟨oc, od, .func fd, osl⟩ ∧ fd.code = .ref p.1
theorem TabAtK.at {K : Frag} {mg mb : Str → Option Value} {q : Program} {loose : List Str} {mean : ExcName → Option Value} {h : Heap} {p : Addr × Addr × Str} (T : Top q loose mean mg mb h) (X : K.In h) (t : TabAtK K mg q p) : h.get? p.2.1 = some { cls := .none, data := .fields #[] } ∧ PySem.W.CodeHd h p.1 p.2.1 := by
  obtain ⟨h1, h2, x, f, oc, od, fd, osl, h3, h4, h5, h6⟩ := t
  obtain ⟨d, hd, hx⟩ := List.any_eq_true.mp h3
  obtain ⟨a, o, fd', c, P, e1, e2, e3, e4, e5, e6⟩ := T.tab d hd
  have hx : d.name = x := by simpa using hx
  rw [hx, h4] at e1
  cases e1
  have e7 := X _ _ h5
  rw [e2] at e7
  cases e7
  cases e3
  rw [h6] at e4
  cases e4
  have e6' := e6
  obtain ⟨⟨oo, vs, g1, g2, g3, g4⟩, g5⟩ := e6
  unfold tabIn at h1
  cases hl : K.lookup p.1 with
  | none => rw [hl] at h1; cases h1
  | some ob =>
    have e8 := X _ _ hl
    rw [g1] at e8
    cases e8
    rw [hl] at h1
    obtain ⟨oc1, od1, dt1, sl1⟩ := oo
    dsimp only at g3 h1
    subst g3
    dsimp only at h1
    rw [g4] at h1
    dsimp only at h1
    cases h1
    exact ⟨g5, PySem.W.CodeHd.of e5 e6'⟩
def LawAtT (P : Program) (w : World) (K : Frag) (CX : CXT) (k n : Nat) (x : Str) (mg : Str → Option Value) (fa : Addr) (q : Program) : Prop :=
  ∃ (cs : List (Addr × Addr × Str)) (I : PenC) (law : DSp) (fd : FuncData), I.toTabC.T = cs.map (fun p => (p.2.1, p.2.2)) ∧ (∀ p ∈ cs, TabAtK K mg q p) ∧ (∀ (s : Shared) (u : Value), BindsTo s fd ⟨[u], []⟩ [(x, u)]) ∧
    (∀ ns : List Int, ns.length ≤ n → (∀ z ∈ ns, Builtin.Int.intBits z ≤ 1048576) → law [.f ns] [] (fun s _ => s = .d (.bool true)) fun _ _ _ => False) ∧
    ∀ base : Heap, K.In base → base.Ns mainGlobals mg → (∀ p ∈ cs, LamX.TabB base mg p.1 p.2.1) → @FnD I.toTabC P w K mg base CX k fa fd [x] law
theorem law_start [I : TabC] {K : Frag} {cs : List (Addr × Addr × Str)} {H : Hp} {a : Addr} {ns : List Int} {law : DSp} (hT : TabC.T = cs.map (fun p => (p.2.1, p.2.2))) (hO : OnlyT (cs.map fun p => (p.1, p.2.1)) H) (hS : SqL K H a (ns.map V.int)) (hl : law [.f ns] [] (fun s _ => s = .d (.bool true)) fun _ _ _ => False) :
    toSp K 1 law [.ref a] H (fun v _ => v = .bl true) fun _ _ _ => False := by
  obtain ⟨h1, h2⟩ := hO
  have at0 : ∀ p ∈ (TabC.T : List (Addr × Str)), H p.1 = some (.tbl #[]) := fun p hp => by
    rw [hT] at hp
    obtain ⟨c, hc, rfl⟩ := List.mem_map.mp hp
    exact h1 (c.1, c.2.1) (List.mem_map.mpr ⟨c, hc, rfl⟩)
  have tb0 : TabOk (Zs.mk [] [] H fun _ => False).W H := by
    refine ⟨fun p hp => LamX.TabS.nil (at0 p hp), fun b ps e => ?_, fun p hp ps e pos c hc => ?_, fun b xs _ w => (by
      rcases w with ⟨i, c, e, _⟩ | w
      · simp at e
      · exact w)⟩
    · rcases h2 b with z | ⟨p, hp, rfl⟩ | ⟨o, xs, z⟩
      · rw [z] at e; cases e
      · obtain ⟨c, hc, rfl⟩ := List.mem_map.mp hp
        exact ⟨(c.2.1, c.2.2), by rw [hT]; exact List.mem_map.mpr ⟨c, hc, rfl⟩, rfl⟩
      · rw [z] at e; cases e
    · rw [at0 p hp] at e
      cases e
      have z : codeAmong pos [] = some (.ref c) := hc
      simp [codeAmong] at z
  refine ⟨⟨[], [], H, fun _ => False⟩, [.f ns], _, _, rfl, ⟨rfl, .nil, fun h a c e => by simp at e, fun a z => z.elim, fun a m => (by cases m), tb0⟩, .cons ⟨a, rfl, ?_⟩ .nil, rfl, hl, ?_, ?_⟩
  · rcases hS with r | r
    · exact .inl ⟨r, fun w => by
        rcases w with ⟨i, c, e, _⟩ | w
        · simp at e
        · exact w⟩
    · exact .inr r
  · rintro Z' v s l ok r rfl
    cases r
    rfl
  · intro Z' c xn d fs l ok x hcv z
    exact z
theorem walkGT {l : PySem.W.OpenLaw} {n k : Nat} {q : Program} {loose : List Str} {XP : (Str → Option Value) → Heap → Prop} {YP : World → Heap → Prop} {d : DefRec} {K : Params → Frag} {CX : World → CXT} {x : Str}
    (hn : l.most = some n) (hn2 : n ≤ sizeLine) (hdf : d.params.defaults = []) (hr : Room k callerA) (hY : ∀ (w : World) (h : Heap), YP w h → (K w.params).In h)
    (F : ∀ (w : World) (mg : Str → Option Value) (fa : Addr) (h : Heap), (K w.params).In h → h.Ns mainGlobals mg → mg d.name = some (.ref fa) → LawAtT l.prog w (K w.params) (CX w) k n x mg fa q)
    (hCX : ∀ (w : World) (H : Hp) (s : Shared) (e : Value) (s' : Shared), CX w [] H s (fun _ _ _ => False) e s' → False) : PySem.W.WalkO q loose XP YP l.row.toRowW d [] (fun f vs => PySem.call f vs) := by
  refine Att.attach_callB hn hdf fun w s₀ s₁ mg mb fa o pm cd doc a vs ns G Y ho hd hcd hmg hobj hints hlen hbits hg => ?_
  have KX := hY w _ Y
  obtain ⟨cs, I, law, fd, hT, hC, hb, hsp, hF⟩ := F w mg fa _ KX G.T.g hmg
  refine lawGT (cs := cs.map fun p => (p.1, p.2.1)) KX G.T.g G.T.b G.T.builtins G.T.nolimit hg (fun p hp => ?_) (fun p hp => ?_) (fun p hp => ?_) G.T.bmain hobj hints (Nat.le_trans hlen hn2) hr (fun base h1 h2 h3 => hF base h1 h2 fun p hp => h3 (p.1, p.2.1) (List.mem_map.mpr ⟨p, hp, rfl⟩)) hb (fun H hO hS => ?_) fun H e s' => hCX w H s₁ e s'
  · obtain ⟨c, hc, rfl⟩ := List.mem_map.mp hp
    exact ((hC c hc).at G.T KX).1
  · obtain ⟨c, hc, rfl⟩ := List.mem_map.mp hp
    exact (hC c hc).2.1
  · obtain ⟨c, hc, rfl⟩ := List.mem_map.mp hp
    exact ((hC c hc).at G.T KX).2
  · exact law_start (I := I.toTabC) hT hO hS (hsp ns hlen hbits)
class TTC where
  tt : List (Addr × Str)
section
variable [PenC]
def rCountD (K : Frag) : V → List V → Hp → VK → Prop := fun x xs H Q => ∃ (a : Addr) (y : V) (d : PyData) (ds : List PyData), x = V.ref a ∧ xs = [y] ∧ Dp K H (V.ref a) (.list ds) ∧ Dp K H y d ∧ SeqAt.shaped (.list ds) = true ∧ SeqAt.shaped d = true ∧ Q (.int (ds.countP fun z => PyData.eqv z d : Nat)) H
def mCount : FM := fun s ss st Q => match ss with
  | [t] => match vw st s, vw st t with
    | some (.list ds), some d => SeqAt.shaped (.list ds) = true ∧ SeqAt.shaped d = true ∧ Q (.d (.int (ds.countP fun z => PyData.eqv z d : Nat))) st
    | _, _ => False
  | _ => False
def mCountS : FM := fun s ss st Q => match vw st s, ss with
  | some (.str a), [t] => match vw st t with
    | some (.str b) => Q (.d (.int (Txt.count a b))) st
    | _ => False
  | _, _ => False
theorem FnD.ofH {P : Program} {w : World} {K : Frag} {mg : Str → Option Value} {base : Heap} {k : Nat} {g : Addr} {x : Str} {st : Stmt} {N : List Str} {a : Str} {Φ : LAct → (PyData → Prop) → Prop} (h : HeardD P w K mg base k g x st N a Φ) : HeardD P w K mg base k g x st N a Φ := h
theorem eqv_bb {a b : Bool} : PyData.eqv (.bool a) (.bool b) = (a == b) := by cases a <;> cases b <;> decide
end
end Pz
set_option maxRecDepth 100000
namespace Rz
open PySem PySem.Spec PyProof.Rows L2
section
variable {X : Cx} {e : Expr} {te : TE} {t : TA} {i : Nat} {x y c d : Str} {j0 j1 : Nat} {p1 p2 c0 c1 b0 apos cpos spos : Pos} {rest : List Stmt} {u : TS}
def tRepM (to te : TE) (c d : Str) : TE := fun σ H Q => to σ H fun v H1 => ∃ a, v = .str a ∧ te σ H1 fun w H2 => ∃ n : Int, w = .int n ∧ 0 ≤ n ∧ n ≤ 1000000 ∧ d.length * n.toNat ≤ sizeLine ∧ (c == Txt.mul d n) = false ∧ a.length + (a.length + 1) * (Txt.mul d n).length ≤ 16777216 ∧ Q (.str (Txt.replace a c (Txt.mul d n))) H2
end
end Rz
namespace Pz
open PySem PySem.Spec PyProof.Rows L2 TL Rz
variable [PenC]
section
variable {X : Cx} {E : WXs} {Z0 : Zs} {rest : List Stmt} {st : Stmt} {u v : DS} {e : Expr} {te to : DE} {t : DA} {i : Nat} {x c d : Str} {j0 j1 : Nat} {p1 p2 c0 c1 b0 apos cpos spos : Pos}
structure DSsT (X : Cx) (E : WXs) (Z0 : Zs) (st : List Stmt) (τ : DS) : Prop where
  run : PSsT X st (upS X.K E Z0 τ)
structure DStT (X : Cx) (E : WXs) (Z0 : Zs) (st : Stmt) (τ : DS) : Prop where
  run : PST X st (upS X.K E Z0 τ)
theorem DSs.T (h : DSs X E Z0 rest u) : DSsT X E Z0 rest u := ⟨PSsT.of h.run⟩
theorem DSt.T (h : DSt X E Z0 st u) : DStT X E Z0 st u := ⟨PST.of h.run⟩
def wRep (to te : DE) (c d : Str) : DE := fun Ed sl st Q => to Ed sl st fun s st => ∃ a, vw st s = some (.str a) ∧ te Ed sl st fun s2 st => ∃ n : Int, vw st s2 = some (.int n) ∧ 0 ≤ n ∧ n ≤ 1000000 ∧ d.length * n.toNat ≤ sizeLine ∧ (c == Txt.mul d n) = false ∧ a.length + (a.length + 1) * (Txt.mul d n).length ≤ 16777216 ∧ Q (.d (.str (Txt.replace a c (Txt.mul d n)))) st
theorem wRep_ap {Ed : DX} {sl : Sls} {st : Sto} {Q : DK} : wRep to te c d Ed sl st Q = (to Ed sl st fun s st => ∃ a, vw st s = some (.str a) ∧ te Ed sl st fun s2 st => ∃ n : Int, vw st s2 = some (.int n) ∧ 0 ≤ n ∧ n ≤ 1000000 ∧ d.length * n.toNat ≤ sizeLine ∧ (c == Txt.mul d n) = false ∧ a.length + (a.length + 1) * (Txt.mul d n).length ≤ 16777216 ∧ Q (.d (.str (Txt.replace a c (Txt.mul d n)))) st) := rfl
end
end Pz
set_option maxRecDepth 100000
set_option maxHeartbeats 1000000
namespace Zm
open PySem PySem.Spec PyProof.Rows L2
section
variable {prog : Program} {w : World} {A : Around} {E : Value → Shared → Prop} {s : Shared}
structure Src (prog : Program) (w : World) (A : Around) (it l : Addr) (S : Nat → Heap → Prop) (xs : Array Value) : Prop where
  item : ∀ {k : Nat} {x : Value} {s : Shared} {Q : Value → Shared → Prop} {E : Value → Shared → Prop}, S k s.heap → xs[k]? = some x → (∀ h', S (k + 1) h' → Heap.SameBut it s.heap h' → Q x { s with heap := h' }) → wpAny (model prog w) A (Builtin.SmallTypes.nextOf (.ref it)) Q E s
  ends : ∀ {k : Nat} {s : Shared} {Q : Value → Shared → Prop} {E : Value → Shared → Prop}, A.handled = none → S k s.heap → xs[k]? = none → (∀ h' e, Heap.ExtBut it s.heap h' → (∃ o, h'.get? e = some o ∧ o.cls = .type "StopIteration") → E (.ref e) { s with heap := h' }) → wpAny (model prog w) A (Builtin.SmallTypes.nextOf (.ref it)) Q E s
  keep : ∀ {k : Nat} {h h' : Heap}, S k h → (∀ c o, (c = it ∨ c = l) → h.get? c = some o → h'.get? c = some o) → S k h'
variable {z TI TO i1 i2 l1 l2 : Addr} {k : Nat} {xs ys : Array Value} {x y a b : Value} {S1 S2 : Nat → Heap → Prop}
abbrev mH1 (h : Heap) (l1 : Addr) : Heap := h.push { cls := .type "list_iterator", data := .fields #[.ref l1, .int 0 0] }
abbrev mH2 (h : Heap) (l1 l2 : Addr) : Heap := (mH1 h l1).push { cls := .type "tuple_iterator", data := .fields #[.ref l2, .int 0 0] }
abbrev mH3 (h : Heap) (l1 l2 : Addr) : Heap := (mH2 h l1 l2).push { cls := .type "tuple", data := .seq #[.ref h.objs.size, .ref (mH1 h l1).objs.size] }
abbrev mH4 (h : Heap) (l1 l2 : Addr) : Heap := (mH3 h l1 l2).push { cls := .type "tuple", data := .seq #[.none, .none] }
abbrev mH5 (h : Heap) (l1 l2 : Addr) : Heap := (mH4 h l1 l2).push { cls := .type "zip", data := .fields #[.none, .bool false, .bool false, .ref (mH2 h l1 l2).objs.size, .ref (mH3 h l1 l2).objs.size] }
end
def ItM (K : PySem.W.Frag) (a b : Addr) : It :=
  ⟨fun i H => ∃ (xs ys : List V) (x y : V), SqL K H a xs ∧ SqT K H b ys ∧ xs[i]? = some x ∧ ys[i]? = some y,
    fun i H v H' => ∃ T x y, v = .ref T ∧ H T = none ∧ H' = upd H T (.tup [x, y]) ∧ (∀ xs, SqL K H a xs → xs[i]? = some x) ∧ ∀ ys, SqT K H b ys → ys[i]? = some y,
    fun i H => ∃ xs ys : List V, SqL K H a xs ∧ SqT K H b ys ∧ (xs.length ≤ i ∨ ys.length ≤ i)⟩
def iZipM (K : PySem.W.Frag) (ta : TA) : TI := fun σ H R => ta σ H fun vs H1 => ∃ a b xs ys, vs = [.ref a, .ref b] ∧ SqL K H1 a xs ∧ SqT K H1 b ys ∧ R (ItM K a b) H1
end Zm
namespace Pz
open PySem PySem.Spec PyProof.Rows L2 TL
variable [PenC]
variable {X : Cx} {E : WXs} {Z0 : Zs} {K : Frag} {t : DA} {e e2 : Expr} {p pos tpos : Pos} {elts : List Expr} {kk : Nat}
def wZipM (te : DA) : DI := fun Ed sl st Q => te Ed sl st fun ss st => match ss with
  | [.d (.list ds), .d (.tuple es)] => Q (zipD ds es) st
  | _ => False
theorem wZipM_ap {te : DA} {Ed : DX} {sl : Sls} {st : Sto} {Q : List PyData → Sto → Prop} : wZipM te Ed sl st Q = (te Ed sl st fun ss st => match ss with
  | [.d (.list ds), .d (.tuple es)] => Q (zipD ds es) st
  | _ => False) := rfl
end Pz
set_option maxRecDepth 100000
namespace Pz
open PySem PySem.Spec PyProof.Rows L2 TL PySem.W
variable [PenC]
def tLenSetT (K : Frag) (ta : TE) : TE := fun σ H Q => ta σ H fun x H1 => ∃ (l : Addr) (ks : List (Addr × List Int)), x = V.ref l ∧ SqL K H1 l (ks.map fun p => V.ref p.1) ∧ (∀ p ∈ ks, SqT K H1 p.1 (p.2.map V.int)) ∧ ks.length < 64 ∧ ∀ M : List (List Int), M.Nodup → (∀ k, k ∈ M ↔ k ∈ ks.map (·.2)) → Q (.int M.length) H1
section
variable {X : Cx} {E : WXs} {a : Expr} {ta : TE} {te : DE} {p p2 q pos : Pos} {K : Frag}
def wLenSet (te : DE) : DE := fun Ed sl st Q => te Ed sl st fun s st => match vw st s with
  | some (.list ds) => ∃ kss : List (List Int), ds = kss.map (fun k => .tuple (k.map .int)) ∧ kss.length < 64 ∧ ∀ M : List (List Int), M.Nodup → (∀ k, k ∈ M ↔ k ∈ kss) → Q (.d (.int M.length)) st
  | _ => False
theorem wLenSet_ap {Ed : DX} {sl : Sls} {st : Sto} {Q : DK} : wLenSet te Ed sl st Q = (te Ed sl st fun s st => match vw st s with
  | some (.list ds) => ∃ kss : List (List Int), ds = kss.map (fun k => .tuple (k.map .int)) ∧ kss.length < 64 ∧ ∀ M : List (List Int), M.Nodup → (∀ k, k ∈ M ↔ k ∈ kss) → Q (.d (.int M.length)) st
  | _ => False) := rfl
end
end Pz
set_option maxRecDepth 100000
namespace Pz
open PySem PySem.Spec PyProof.Rows L2 TL PySem.W
variable [PenC]
def borS : Option Sl → Option Sl
  | some (.d x) => some (.d x)
  | _ => none
def atomD : PyData → Bool
  | .int _ => true
  | .bool _ => true
  | .str _ => true
  | .none => true
  | _ => false
def wBor (i : Nat) (te : DE) : DE := fun _ sl st Q => match nthS sl i with
  | some (.o h) => match st[h]? with
    | some (.lst ds) => te (fun _ _ _ _ => False) ((sl.map borS).set i (some (.d (.list ds)))) [] fun s _ => match s with
      | .d x => atomD x = true ∧ Q (.d x) st
      | _ => False
    | _ => False
  | _ => False
theorem wBor_ap {i : Nat} {te : DE} {Ed : DX} {sl : Sls} {st : Sto} {Q : DK} : wBor i te Ed sl st Q = (match nthS sl i with
  | some (.o h) => match st[h]? with
    | some (.lst ds) => te (fun _ _ _ _ => False) ((sl.map borS).set i (some (.d (.list ds)))) [] fun s _ => match s with
      | .d x => atomD x = true ∧ Q (.d x) st
      | _ => False
    | _ => False
  | _ => False) := rfl
end Pz
set_option maxRecDepth 100000
namespace Pz
open PySem PySem.Spec PyProof.Rows L2 TL PySem.W
variable [PenC]
def gTpL (n : Nat) (gs : DGL) : DG := fun s sl st Q => match vw st s with
  | some (.list ds) => ds.length = n ∧ gs ds sl st Q
  | _ => False
theorem gTpL_ap {n : Nat} {gs : DGL} {s : Sl} {sl : Sls} {st : Sto} {Q : Sls → Sto → Prop} : gTpL n gs s sl st Q = (match vw st s with
  | some (.list ds) => ds.length = n ∧ gs ds sl st Q
  | _ => False) := rfl
end Pz
set_option maxRecDepth 100000
namespace L2
open PySem PySem.Spec PyProof.Rows
section
variable {X : Cx}
def tRevS (te : TE) : TE := fun σ H Q => te σ H fun x H1 => ∃ z, x = .str z ∧ z.length ≤ sizeLine ∧ Q (.str ⟨z.cps.toList.reverse.toArray⟩) H1
end
end L2
namespace Pz
open PySem PySem.Spec PyProof.Rows L2 TL
variable [PenC]
section
variable {X : Cx} {E : WXs} {Z0 : Zs} {a b e : Expr} {ta tb te : DE} {pos p p2 pos2 : Pos} {K : Frag}
def wTupRg (tr : DX → Sls → Sto → (Int → Int → Sto → Prop) → Prop) : DE := fun Ed sl st Q => tr Ed sl st fun i j st => RgOk i j ∧ Q (.d (.tuple (rng i (j - i).toNat))) st
theorem wTupRg_ap {tr : DX → Sls → Sto → (Int → Int → Sto → Prop) → Prop} {Ed : DX} {sl : Sls} {st : Sto} {Q : DK} : wTupRg tr Ed sl st Q = (tr Ed sl st fun i j st => RgOk i j ∧ Q (.d (.tuple (rng i (j - i).toNat))) st) := rfl
def revT (z : Str) : Str := ⟨z.cps.toList.reverse.toArray⟩
def wRevS (te : DE) : DE := fun Ed sl st Q => te Ed sl st fun s st => match vw st s with
  | some (.str z) => z.length ≤ sizeLine ∧ Q (.d (.str (revT z))) st
  | _ => False
theorem wRevS_ap {Ed : DX} {sl : Sls} {st : Sto} {Q : DK} : wRevS te Ed sl st Q = (te Ed sl st fun s st => match vw st s with
  | some (.str z) => z.length ≤ sizeLine ∧ Q (.d (.str (revT z))) st
  | _ => False) := rfl
def rInsert : V → List V → Hp → VK → Prop := fun x vs H Q => ∃ (l : Addr) (xs : List V) (i : Int) (y : V), x = .ref l ∧ vs = [.int i, y] ∧ H l = some (.lst xs) ∧ xs.length < sizeLine ∧ 0 ≤ i ∧ i < 2 ^ 63 ∧ Q .non (upd H l (.lst (xs.take i.toNat ++ [y] ++ xs.drop i.toNat)))
def mInsert : FM := fun s ss st Q => match s, ss with
  | .o h, [t, .d y] => match st[h]?, vw st t with
    | some (.lst ds), some (.int i) => ds.length < sizeLine ∧ 0 ≤ i ∧ i < 2 ^ 63 ∧ Q (.d .none) (st.set h (.lst (ds.take i.toNat ++ [y] ++ ds.drop i.toNat)))
    | _, _ => False
  | _, _ => False
def wFmt (te : DE) : DE := fun Ed sl st Q => te Ed sl st fun s st => match vw st s with
  | some (.str y) => y.length ≤ sizeLine ∧ Q (.d (.str y)) st
  | some (.int i) => i.natAbs < 10 ^ 100 ∧ Q (.d (.str (PyData.shown (.int i)))) st
  | _ => False
theorem wFmt_ap {Ed : DX} {sl : Sls} {st : Sto} {Q : DK} : wFmt te Ed sl st Q = (te Ed sl st fun s st => match vw st s with
  | some (.str y) => y.length ≤ sizeLine ∧ Q (.d (.str y)) st
  | some (.int i) => i.natAbs < 10 ^ 100 ∧ Q (.d (.str (PyData.shown (.int i)))) st
  | _ => False) := rfl
def wJs : List DE → Str → DX → Sls → Sto → (Str → Sto → Prop) → Prop
  | [], acc, _, _, st, Q => Q acc st
  | t :: ts, acc, Ed, sl, st, Q => t Ed sl st fun s st => match vw st s with
    | some (.str y) => (acc ++ y).length ≤ sizeLine ∧ wJs ts (acc ++ y) Ed sl st Q
    | _ => False
inductive DJ (X : Cx) (E : WXs) : List Expr → List DE → Prop where
  | nil : DJ X E [] []
  | cons {e : Expr} {t : DE} {es : List Expr} {ts : List DE} (h : DEx X E e t) (r : DJ X E es ts) : DJ X E (e :: es) (t :: ts)
def wJoined (ts : List DE) : DE := fun Ed sl st Q => wJs ts Str.empty Ed sl st fun y st => Q (.d (.str y)) st
theorem wJoined_ap {ts : List DE} {Ed : DX} {sl : Sls} {st : Sto} {Q : DK} : wJoined ts Ed sl st Q = wJs ts Str.empty Ed sl st fun y st => Q (.d (.str y)) st := rfl
theorem wJs_nil {acc : Str} {Ed : DX} {sl : Sls} {st : Sto} {Q : Str → Sto → Prop} : wJs [] acc Ed sl st Q = Q acc st := rfl
theorem wJs_cons {t : DE} {ts : List DE} {acc : Str} {Ed : DX} {sl : Sls} {st : Sto} {Q : Str → Sto → Prop} : wJs (t :: ts) acc Ed sl st Q = (t Ed sl st fun s st => match vw st s with
    | some (.str y) => (acc ++ y).length ≤ sizeLine ∧ wJs ts (acc ++ y) Ed sl st Q
    | _ => False) := rfl
def rIntS : List V → Hp → VK → Prop := fun xs H Q => ∃ a n, xs = [.str a] ∧ PySem.intText? a = some n ∧ a.length ≤ 640 ∧ Q (.int n) H
def fIntS : FA := fun ss st Q => match ss with
  | [s] => match vw st s with
    | some (.str z) => z.length ≤ 640 ∧ ∃ n, PySem.intText? z = some n ∧ Q (.d (.int n)) st
    | _ => False
  | _ => False
end
end Pz
set_option maxRecDepth 100000
namespace Sz
open PySem PySem.Spec PyProof.Rows L2
section
variable {prog : Program} {w : World} {A : Around} {E : Value → Shared → Prop} {s : Shared}
end
end Sz
namespace Pz
open PySem PySem.Spec PyProof.Rows L2 TL
variable [PenC]
section
variable {X : Cx} {K : Frag}
def rStrN : List V → Hp → VK → Prop := fun xs H Q => (xs = [.non] ∧ Q (.str (Str.ofString "None")) H) ∨ rStr xs H Q
def fStrN : FA := fun ss st Q => match ss with
  | [s] => match vw st s with
    | some .none => Q (.d (.str (Str.ofString "None"))) st
    | some (.int i) => i.natAbs < 10 ^ 100 ∧ Q (.d (.str (PyData.shown (.int i)))) st
    | _ => False
  | _ => False
end
def orP (o : Option Bool) (A B : Prop) : Prop := match o with
  | some b => if b = true then A else B
  | none => False
theorem orP_some {b : Bool} {A B : Prop} : orP (some b) A B = if b = true then A else B := rfl
theorem orP_none {A B : Prop} : orP none A B = False := rfl
theorem orP_str {st : Sto} {z : Str} {A B : Prop} : orP (truD st (.d (.str z))) A B = (z.length ≤ 16777216 ∧ if z.length = 0 then B else A) := by
  unfold truD
  show orP (if z.length ≤ sizeLine then some ((z.length : Int) != 0) else none) A B = _
  by_cases h : z.length ≤ sizeLine
  · rw [if_pos h, orP_some]
    have h2 : z.length ≤ 16777216 := h
    by_cases h0 : z.length = 0
    · rw [if_neg (by simp [h0]), if_pos h0]; exact propext ⟨fun q => ⟨h2, q⟩, fun q => q.2⟩
    · rw [if_pos (by simp; omega), if_neg h0]; exact propext ⟨fun q => ⟨h2, q⟩, fun q => q.2⟩
  · rw [if_neg h, orP_none]
    have h2 : ¬ z.length ≤ 16777216 := h
    exact propext ⟨fun q => q.elim, fun q => h2 q.1⟩
section
variable {ta tb : DE} {Ed : DX} {sl : Sls} {st : Sto} {Q : DK}
theorem wOrX_apS : wOrX ta tb Ed sl st Q = (ta Ed sl st fun s st => orP (truD st s) (Q s st) (tb Ed sl st Q)) := rfl
theorem wAndX_apS : wAndX ta tb Ed sl st Q = (ta Ed sl st fun s st => orP (truD st s) (tb Ed sl st Q) (Q s st)) := rfl
end
end Pz
set_option maxRecDepth 100000
namespace Pz
open PySem PySem.Spec PyProof.Rows L2 TL
variable [PenC]
section
variable {K : Frag}
def rInQ (K : Frag) (neg : Bool) : R2 := fun x y H Q => ∃ d ds, Dp K H x d ∧ Dp K H y (.tuple ds) ∧ SeqAt.shaped d = true ∧ SeqAt.shaped (.tuple ds) = true ∧ Q (.bl (if neg then !ds.any fun z => PyData.eqv z d else ds.any fun z => PyData.eqv z d)) H
def oInQ (neg : Bool) (x y : Sl) (st : Sto) (Q : DK) : Prop := match vw st x, vw st y with
  | some d, some (.tuple ds) => SeqAt.shaped d = true ∧ SeqAt.shaped (.tuple ds) = true ∧ Q (.d (.bool (if neg then !ds.any fun z => PyData.eqv z d else ds.any fun z => PyData.eqv z d))) st
  | _, _ => False
end
end Pz
namespace Pz
open PySem PySem.Spec PyProof.Rows L2 TL
variable [PenC]
def setAll : List Nat → List Sl → Sls → Sls
  | i :: is, s :: ss, sl => setAll is ss (sl.set i (some s))
  | _, _, sl => sl
structure DGn (X : Cx) (ts : List Expr) (is : List Nat) : Prop where
  run : PGs X ts fun vs σ H Q => ∃ (Z : Zs) (sl : Sls) (ss : List Sl) (Qd : Sls → Prop), Z.H = H ∧ Ok X.K Z ∧ SlOk X.K Z σ sl ∧ RpAll X.K Z vs ss ∧ ss.length = is.length ∧ Qd (setAll is ss sl) ∧ ∀ (σ' : L2.St) (sl' : Sls), SlOk X.K Z σ' sl' → Qd sl' → Q σ' Z.H
section
variable {X : Cx} {E : WXs} {Z0 : Zs} {pos : Pos} {x : Str}
def wAsgS (is : List Nat) (t : DA) : DS := fun D sl st => t D.ex sl st fun ss st => ss.length = is.length ∧ ss.length ≤ sizeLine ∧ D.nx (setAll is ss sl) st
theorem wAsgS_ap {is : List Nat} {t : DA} {nx bk ct : Sls → Sto → Prop} {rt : DK} {ex : DX} {sl : Sls} {st : Sto} : wAsgS is t ⟨nx, rt, ex, bk, ct⟩ sl st = t ex sl st fun ss st => ss.length = is.length ∧ ss.length ≤ sizeLine ∧ nx (setAll is ss sl) st := rfl
end
end Pz
set_option maxRecDepth 100000
namespace Pz
open PySem PySem.Spec PyProof.Rows L2 TL
variable [PenC]
section
variable {X : Cx} {E : WXs} {Z0 : Zs} {a b c : Expr} {t : DA} {pos px py pz pt pt2 : Pos} {x y z : Str} {kt k2 : Nat}
def wPar3 (i j l : Nat) (t : DA) : DS := fun D sl st => t D.ex sl st fun ss st => match ss with
  | [a, b, c] => D.nx (((sl.set i (some a)).set j (some b)).set l (some c)) st
  | _ => False
theorem wPar3_ap {i j l : Nat} {t : DA} {nx bk ct : Sls → Sto → Prop} {rt : DK} {ex : DX} {sl : Sls} {st : Sto} : wPar3 i j l t ⟨nx, rt, ex, bk, ct⟩ sl st = t ex sl st fun ss st => match ss with
  | [a, b, c] => nx (((sl.set i (some a)).set j (some b)).set l (some c)) st
  | _ => False := rfl
end
end Pz
set_option maxRecDepth 100000
namespace Pz
open PySem PySem.Spec PyProof.Rows L2 TL
variable [PenC]
section
variable {X : Cx} {E : WXs} {Z0 : Zs} {a b c e : Expr} {es : List Expr} {ta tb tc te : DE} {t : DA} {pos p : Pos} {x : Str} {K : Frag} {A : DT}
def wDcL (g : DG) (tt : DT) (tk te : DE) (sl : Sls) : List PyData → KD → Sto → (KD → Sto → Prop) → Prop
  | [], acc => fun st Q => Q acc st
  | d :: ds, acc => fun st Q => g (.d d) sl st fun sl2 st => tt (fun _ _ _ _ => False) sl2 st fun b st => if b = true then tk (fun _ _ _ _ => False) sl2 st fun ks st => te (fun _ _ _ _ => False) sl2 st fun s st => match keyS st ks, s with
      | some k, .d y => acc.length < sizeLine ∧ wDcL g tt tk te sl ds (putD acc k y) st Q
      | _, _ => False
    else wDcL g tt tk te sl ds acc st Q
def wDc (ω : DI) (g : DG) (tt : DT) (tk te : DE) (vs : List Nat) : DE := fun Ed sl st Q => ω Ed sl st fun ds st => wDcL g tt tk te (wipeS sl vs) ds [] st fun acc st => Q (.d (.dict (kdD acc))) st
theorem wDc_ap {ω : DI} {g : DG} {tt : DT} {tk te : DE} {vs : List Nat} {Ed : DX} {sl : Sls} {st : Sto} {Q : DK} : wDc ω g tt tk te vs Ed sl st Q = ω Ed sl st fun ds st => wDcL g tt tk te (wipeS sl vs) ds [] st fun acc st => Q (.d (.dict (kdD acc))) st := rfl
variable {elt kx tg iter : Expr} {ifs : List Expr} {scope : Scope} {own : List (Str × Nat)} {ω : DI} {is : List Nat} {g : DG} {tt : DT}
end
section
variable {X : Cx} {E : WXs} {o e f : Expr} {td ty tx : DE} {apos cpos : Pos} {K : Frag}
def dkX : Sl → Option KD
  | .d (.dict l) => unKD l
  | _ => none
def wDGet3 (td ty tx : DE) : DE := fun Ed sl st Q => td Ed sl st fun s st => (dkX s).isSome = true ∧ ty Ed sl st fun t st => tx Ed sl st fun u st => match dkX s, keyS st t with
  | some kvs, some k => match valD kvs k with
    | some d => Q (.d d) st
    | none => Q u st
  | _, _ => False
theorem wDGet3_ap {Ed : DX} {sl : Sls} {st : Sto} {Q : DK} : wDGet3 td ty tx Ed sl st Q = (td Ed sl st fun s st => (dkX s).isSome = true ∧ ty Ed sl st fun t st => tx Ed sl st fun u st => match dkX s, keyS st t with
  | some kvs, some k => match valD kvs k with
    | some d => Q (.d d) st
    | none => Q u st
  | _, _ => False) := rfl
end
end Pz
set_option maxRecDepth 100000
namespace Pz
open PySem PySem.Spec PyProof.Rows L2 TL
variable [PenC]
section
variable {X : Cx} {K : Frag}
def rIsBN : R2 := fun x y H Q => ∃ b : Bool, y = .bl b ∧ ((∃ a : Bool, x = .bl a ∧ Q (.bl (decide (a = b))) H) ∨ (x = .non ∧ Q (.bl false) H))
def oIsBN (x y : Sl) (st : Sto) (Q : DK) : Prop := match vw st x, vw st y with
  | some (.bool a), some (.bool b) => Q (.d (.bool (decide (a = b)))) st
  | some .none, some (.bool _) => Q (.d (.bool false)) st
  | _, _ => False
end
end Pz
set_option maxRecDepth 100000
namespace Pz
open PySem PySem.Spec PyProof.Rows L2 TL
variable [PenC]
section
variable {X : Cx} {E : WXs} {Z0 : Zs} {K : Frag} {e ob ix : Expr} {te to ti ta tb : DE} {pos tpos : Pos}
def oIxS (s t : Sl) (st : Sto) (Q : DK) : Prop := match s with
  | .o h => match st[h]? with
    | some (.lsS xs) => match vw st t with
      | some (.int i) => match atI xs i with
        | some x => Q x st
        | none => False
      | _ => False
    | _ => oIxE s t st Q
  | _ => oIxE s t st Q
def wSetIxO (te to ti : DE) : DS := fun D sl st => te D.ex sl st fun v st => to D.ex sl st fun o st => ti D.ex sl st fun i st => match o, i with
  | .o h, .d (.int j) => match st[h]? with
    | some (.lst ds) => match ixN ds.length j with
      | some n => D.nx sl (st.set h (.lsS ((ds.map Sl.d).set n v)))
      | none => False
    | some (.lsS xs) => match ixN xs.length j with
      | some n => D.nx sl (st.set h (.lsS (xs.set n v)))
      | none => False
    | _ => False
  | _, _ => False
def frz1 (j : Nat) (ds : List PyData) : Sl → Sl
  | .o k => if k = j then .d (.list ds) else .o k
  | s => s
def wClose (n0 i : Nat) (u : DS) : DS := fun D sl st => match nthS sl i with
  | some (.o h) => match st[h]? with
    | some (.lsS xs) => ∃ (j : Nat) (ds ys : List PyData), n0 ≤ j ∧ st[j]? = some (.lst ds) ∧ xs.map (frz1 j ds) = ys.map Sl.d ∧ (∀ c ∈ st.set h .dead, NoRef j c) ∧ u D (sl.map (frzS j ds)) ((st.set j .dead).set h (.lst ys))
    | _ => u D sl st
  | _ => u D sl st
theorem wClose_ap {n0 i : Nat} {u : DS} {nx bk ct : Sls → Sto → Prop} {rt : DK} {ex : DX} {sl : Sls} {st : Sto} : wClose n0 i u ⟨nx, rt, ex, bk, ct⟩ sl st = (match nthS sl i with
  | some (.o h) => match st[h]? with
    | some (.lsS xs) => ∃ (j : Nat) (ds ys : List PyData), n0 ≤ j ∧ st[j]? = some (.lst ds) ∧ xs.map (frz1 j ds) = ys.map Sl.d ∧ (∀ c ∈ st.set h .dead, NoRef j c) ∧ u ⟨nx, rt, ex, bk, ct⟩ (sl.map (frzS j ds)) ((st.set j .dead).set h (.lst ys))
    | _ => u ⟨nx, rt, ex, bk, ct⟩ sl st
  | _ => u ⟨nx, rt, ex, bk, ct⟩ sl st) := rfl
theorem wSetIxO_ap {te to ti : DE} {nx bk ct : Sls → Sto → Prop} {rt : DK} {ex : DX} {sl : Sls} {st : Sto} : wSetIxO te to ti ⟨nx, rt, ex, bk, ct⟩ sl st = (te ex sl st fun v st => to ex sl st fun o st => ti ex sl st fun i st => match o, i with
  | .o h, .d (.int j) => match st[h]? with
    | some (.lst ds) => match ixN ds.length j with
      | some n => nx sl (st.set h (.lsS ((ds.map Sl.d).set n v)))
      | none => False
    | some (.lsS xs) => match ixN xs.length j with
      | some n => nx sl (st.set h (.lsS (xs.set n v)))
      | none => False
    | _ => False
  | _, _ => False) := rfl
theorem oIxS_ap {s t : Sl} {st : Sto} {Q : DK} : oIxS s t st Q = (match s with
  | .o h => match st[h]? with
    | some (.lsS xs) => match vw st t with
      | some (.int i) => match atI xs i with
        | some x => Q x st
        | none => False
      | _ => False
    | _ => oIxE s t st Q
  | _ => oIxE s t st Q) := rfl
end
end Pz
set_option maxRecDepth 100000
set_option maxHeartbeats 2000000
namespace PySem
namespace Xc
open PySem.W PySem.Calls PyProof.Rows PySem.HandSPX
def iA3 (f1 f2 f3 : Str) (p1 p2 p3 p4 : Pos) : Arguments := { posonlyargs := [], args := [{ arg := "self", annotation := none, pos := p1 }, { arg := f1, annotation := none, pos := p2 }, { arg := f2, annotation := none, pos := p3 }, { arg := f3, annotation := none, pos := p4 }], vararg := none, kwonlyargs := [], kw_defaults := [], kwarg := none, defaults := [] }
def iB3 (f1 f2 f3 : Str) (q1 q2 q3 q4 r1 r2 r3 r4 s1 s2 s3 s4 : Pos) : List Stmt := [.Assign [.Attribute (.Name "self" q1) f1 q2] (.Name f1 q3) q4, .Assign [.Attribute (.Name "self" r1) f2 r2] (.Name f2 r3) r4, .Assign [.Attribute (.Name "self" s1) f3 s2] (.Name f3 s3) s4]
def iS3 (f1 f2 f3 : Str) : Scope := { kind := .function, names := [(PySem.Str.ofString "self", .local), (f1, .local), (f2, .local), (f3, .local)], isGenerator := false, isCoroutine := false, more := [] }
structure Txt3 (B newId initId : String) (bmB : List Value) (f1 f2 f3 qn : Str) (K : Frag) (C fI : Addr) : Prop where
  cls : ∃ nm q N bs bm sn sub ab col dd k0 k1 k2 k3 k5, K.lookup C = some (excClassObj nm q C N bs bm true sn sub ab col dd k0 k1 k2 k3 k5 newId) ∧ refsT bmB bm = true
  sa : findIn K (.ref C) "__setattr__" = some (some (.builtin "object.__setattr__"))
  noN1 : findIn K (.ref C) f1 = some none
  noN2 : findIn K (.ref C) f2 = some none
  noN3 : findIn K (.ref C) f3 = some none
  iC : findIn K (.ref C) "__init__" = some (some (.ref fI))
  tC : typeIn K (.ref fI) = some (.type "function")
  kC : keepIn K (.ref C) = true
  exC : subIn K (.ref C) (.type "BaseException") = some true
  tyC : typeIn K (.ref C) = some (.type "type")
  fn : ∃ (oc : Value) (od : Option Addr) (doc pm : Value) (an : Option Addr) (cdv ct : Value) (osl : Array (Option Value)) (p1 p2 p3 p4 q1 q2 q3 q4 r1 r2 r3 r4 s1 s2 s3 s4 : Pos),
    K.lookup fI = some ⟨oc, od, .func (fnOf "__init__" qn (iA3 f1 f2 f3 p1 p2 p3 p4) (iB3 f1 f2 f3 q1 q2 q3 q4 r1 r2 r3 r4 s1 s2 s3 s4) (iS3 f1 f2 f3) .none .none doc pm an cdv ct), osl⟩ ∧ codeIn K cdv qn = true
section
variable {prog : Program} {w : World} {A : Around} {E : Value → Shared → Prop} {R : Result → Shared → Prop} {hp : Heap} {g : Array GenState} {d : Drawn} {t : Nat} {os : OsState} {B newId initId ow : String} {bmB : List Value}
end
def nsM3 (f1 f2 f3 : Str) (v1 v2 v3 : Value) : Str → Option Value := fun y => if y = f3 then some v3 else if y = f2 then some v2 else if y = f1 then some v1 else none
structure InitEnd3 (h h' : Heap) (x C dx t1 : Addr) (f1 f2 f3 : Str) (v1 v2 v3 : Value) : Prop where
  keep : ∀ b o, b ≠ x → h.get? b = some o → h'.get? b = some o
  obj : h'.get? x = some { cls := .ref C, dict := some dx, data := .fields #[.ref t1, .none, .none, .none, .bool false, .none] }
  dbig : h.objs.size ≤ dx
  dne : dx ≠ x
  ns : h'.Ns1 dx (nsM3 f1 f2 f3 v1 v2 v3)
structure OwnMade3 (h h' : Heap) (e C d : Addr) (f1 f2 f3 : Str) (v1 v2 v3 : Value) : Prop where
  keep : ∀ b o, h.get? b = some o → h'.get? b = some o
  new : h.objs.size ≤ e
  obj : ∃ oe vs, h'.get? e = some oe ∧ oe.cls = .ref C ∧ oe.dict = some d ∧ oe.data = .fields vs ∧ vs[1]? = some .none
  dbig : h.objs.size ≤ d
  dne : d ≠ e
  ns : h'.Ns1 d (nsM3 f1 f2 f3 v1 v2 v3)
def InitRun3 (B newId initId : String) (bmB : List Value) (f1 f2 f3 qn : Str) (K : Frag) (C fI : Addr) : Prop := ∀ (prog : Program) (w : World) (A : Around) (R : Result → Shared → Prop) (s : Shared) (x t0 : Addr) (v1 v2 v3 : Value), Txt3 B newId initId bmB f1 f2 f3 qn K C fI → K.In s.heap → s.heap.NoLimit → s.heap.get? x = some (excO C t0) → K.lookup x = none → A.depth < recursionLimit →
    (∀ h' tk dx, InitEnd3 s.heap h' x C dx t0 f1 f2 f3 v1 v2 v3 → R (.ok (.ret .none)) { s with heap := h', toks := tk }) → codeAny (model prog w) A (.call (.ref fI) ⟨[.ref x, v1, v2, v3], []⟩) R s
section
variable {K : Frag} {C fI : Addr} {B newId initId ow : String} {bmB : List Value} {qn : Str}
end
section
variable {prog : Program} {w : World} {A : Around} {E : Value → Shared → Prop} {R : Result → Shared → Prop} {s : Shared} {K : Frag} {C fI : Addr} {B newId initId : String} {bmB : List Value} {f1 f2 f3 qn : Str}
end
end Xc
end PySem
namespace L2
open PySem PySem.Spec PyProof.Rows
def m3L (f1 f2 f3 : Str) (v1 v2 v3 : V) : List (Str × V) := [(f3, v3), (f2, v2), (f1, v1)]
section
variable {X : Cx} {C fI : Addr} {B newId initId : String} {bmB : List Value} {f1 f2 f3 qn x : Str}
def tMk3 (f1 f2 f3 : Str) (C : Addr) (ta : TA) : St → Hp → XK → Prop := fun σ H Q => ta σ H fun vs H1 => ∃ v1 v2 v3, vs = [v1, v2, v3] ∧ ∀ d, H1 d = none → Q (.ref C) (some d) (upd H1 d (.xd (m3L f1 f2 f3 v1 v2 v3)))
end
end L2
set_option maxRecDepth 100000
namespace Pz
open PySem PySem.Spec PyProof.Rows L2 TL
variable [PenC]
section
variable {X : Cx} {E : WXs} {Z0 : Zs} {x f1 f2 f3 : Str} {p pos pos' : Pos} {a b c : Expr} {t : DA} {k : Nat}
def wRaise3 (x f1 f2 f3 : Str) (t : DA) : DS := fun D sl st => t D.ex sl st fun ss st => match ss with
  | [.d y1, .d y2, .d y3] => D.ex x [(f3, y3), (f2, y2), (f1, y1)] sl st
  | _ => False
theorem wRaise3_ap {nx bk ct : Sls → Sto → Prop} {rt : DK} {ex : DX} {sl : Sls} {st : Sto} : wRaise3 x f1 f2 f3 t ⟨nx, rt, ex, bk, ct⟩ sl st = (t ex sl st fun ss st => match ss with
  | [.d y1, .d y2, .d y3] => ex x [(f3, y3), (f2, y2), (f1, y1)] sl st
  | _ => False) := rfl
def Mk3 (K : Frag) (mg : Str → Option Value) (x f1 f2 f3 : Str) : Prop := ∃ (C fI : Addr) (B newId initId : String) (bmB : List Value) (qn : Str), mg x = some (.ref C) ∧ ClsV K x (.ref C) ∧ ExcBaseFacts B newId initId bmB ∧ PySem.Xc.InitRun3 B newId initId bmB f1 f2 f3 qn K C fI ∧ PySem.Xc.Txt3 B newId initId bmB f1 f2 f3 qn K C fI
end
def Mk3K (K : Frag) (x f1 f2 f3 : Str) : Prop := ∃ (C fI : Addr) (B newId initId : String) (bmB : List Value) (qn : Str), PySem.W.nsIn K mainGlobals x = some (some (.ref C)) ∧ ExcBaseFacts B newId initId bmB ∧ PySem.Xc.InitRun3 B newId initId bmB f1 f2 f3 qn K C fI ∧ PySem.Xc.Txt3 B newId initId bmB f1 f2 f3 qn K C fI
theorem Mk3K.to {K : Frag} {h : Heap} {mg : Str → Option Value} {x f1 f2 f3 : Str} (R : Mk3K K x f1 f2 f3) (X : K.In h) (G : h.Ns mainGlobals mg) : Mk3 K mg x f1 f2 f3 := by
  obtain ⟨C, fI, B, a, b, bm, qn, e, h1, h2, h3⟩ := R
  exact ⟨C, fI, B, a, b, bm, qn, PySem.W.mg_of X G e, e, h1, h2, h3⟩
end Pz
set_option maxRecDepth 100000
set_option maxHeartbeats 2000000
namespace L2
open PySem PySem.Spec PyProof.Rows
theorem tuple_mul1 (l : Addr) (items : Array Value) (n : Nat) (dd : Option Addr) (sl : Array (Option Value)) (x : Int) (u : Tok) (c0 : (decide (x < -(2 ^ 63)) || decide (x ≥ 2 ^ 63)) = false) (c1 : (items.isEmpty || x == 1) = true) :
    Meets (Builtin.«tuple.__mul__» ⟨[.ref l, .int x u], []⟩) (fun _ R s => s.heap.get? l = some { cls := .type "tuple", dict := dd, data := .seq items n, slots := sl } ∧ R (.ok (.ret (Value.ref l))) s) :=
  .of_wp fun prog w A R s h => by
    obtain ⟨hp, g, d, tk, os⟩ := s
    obtain ⟨hl, h⟩ := h
    have f1 := AutoSeq1.idx_int
    wp_walk using wpAny_loadPart' hl
    repeat (first
      | (refine wpAny_ite_false (decide_eq_false (by rw [c0]; exact Bool.false_ne_true)) ?_; wp_walk using wpAny_loadPart' hl)
      | (refine wpAny_ite_true (decide_eq_true c1) ?_; wp_walk using wpAny_loadPart' hl))
    exact ⟨_, rfl, h⟩
theorem tuple_mul0 (l : Addr) (items : Array Value) (n : Nat) (dd : Option Addr) (sl : Array (Option Value)) (x : Int) (u : Tok) (c0 : (decide (x < -(2 ^ 63)) || decide (x ≥ 2 ^ 63)) = false) (c1 : (items.isEmpty || x == 1) = false) (c2 : (decide (x ≤ 0) || items.isEmpty) = true) :
    Meets (Builtin.«tuple.__mul__» ⟨[.ref l, .int x u], []⟩) (fun _ R s => s.heap.get? l = some { cls := .type "tuple", dict := dd, data := .seq items n, slots := sl } ∧
      R (.ok (.ret (Value.ref s.heap.objs.size))) { s with heap := s.heap.push { cls := Value.type "tuple", data := Data.seq #[] }, toks := s.toks }) :=
  .of_wp fun prog w A R s h => by
    obtain ⟨hp, g, d, tk, os⟩ := s
    obtain ⟨hl, h⟩ := h
    have f1 := AutoSeq1.idx_int
    wp_walk using wpAny_loadPart' hl
    repeat (first
      | (refine wpAny_ite_false (decide_eq_false (by rw [c0]; exact Bool.false_ne_true)) ?_; wp_walk using wpAny_loadPart' hl)
      | (refine wpAny_ite_false (decide_eq_false (by rw [c1]; exact Bool.false_ne_true)) ?_; wp_walk using wpAny_loadPart' hl)
      | (refine wpAny_ite_true (decide_eq_true c2) ?_; wp_walk using wpAny_loadPart' hl))
    exact ⟨_, rfl, h⟩
def rRepT1 (K : PySem.W.Frag) : R2 := fun x y H Q => ∃ l xs, x = .ref l ∧ y = .int 1 ∧ SqT K H l xs ∧ Q x H
def rRepT0 (K : PySem.W.Frag) : R2 := fun x y H Q => ∃ l k xs, x = .ref l ∧ y = .int k ∧ SqT K H l xs ∧ xs ≠ [] ∧ k ≤ 0 ∧ -1000 ≤ k ∧ ∀ p, H p = none → Q (.ref p) (upd H p (.tup []))
section
variable {X : Cx}
theorem op_repT1 : OpR X (binaryOp .Mult) (rRepT1 X.K) := by
  intro pins s σ H x y v u Q I rx ry h
  obtain ⟨l, xs, rfl, rfl, hT, q⟩ := h
  cases rx
  obtain ⟨t, rfl⟩ := ry
  obtain ⟨its, r, ⟨⟨cls, dd, data, sl⟩, ho, hc, n, hd⟩, hs⟩ := I.tuple hT
  simp only at hc hd
  subst hc hd
  have c0 : (decide ((1 : Int) < -(2 ^ 63)) || decide ((1 : Int) ≥ 2 ^ 63)) = false := by decide
  have c1 : (its.toArray.isEmpty || (1 : Int) == 1) = true := by
    rw [show ((1 : Int) == 1) = true from rfl, Bool.or_true]
  refine wpAny_binaryOp_repeat_ref (T := "tuple") (U := "int") (by decide) ⟨_, ho, rfl⟩ (fun s' => typeIs_int s' 1 t) noFill_tuple_mul F.fills_int_mul F.slot_int_rmul repeat_tuple F.slot_int_index.lookup
    (call_meets F.slot_int_rmul (typeIs_int s 1 t) F.entry_int_rmul (F.args_int_rmul_2 _ _) (int_rmul_tuple 1 t l its.toArray n dd sl)
      ⟨ho, rfl, ⟨_, ho, rfl⟩, call_meets F.slot_tuple_mul ⟨_, ho, rfl⟩ F.entry_tuple_mul (F.args_tuple_mul_2 _ _) (tuple_mul1 l its.toArray n dd sl 1 t c0 c1) ⟨ho, ?_⟩⟩)
  exact ⟨.ref l, H, I, rfl, q⟩
theorem op_repT0 : OpR X (binaryOp .Mult) (rRepT0 X.K) := by
  intro pins s σ H x y v u Q I rx ry h
  obtain ⟨l, k, xs, rfl, rfl, hT, hne, h1, h2, q⟩ := h
  cases rx
  obtain ⟨t, rfl⟩ := ry
  obtain ⟨its, r, ⟨⟨cls, dd, data, sl⟩, ho, hc, n, hd⟩, hs⟩ := I.tuple hT
  simp only at hc hd
  subst hc hd
  have hle : its.length = xs.length := r.length.symm
  have hn : its ≠ [] := fun e => hne (by
    rw [e] at hle
    exact List.eq_nil_of_length_eq_zero hle.symm)
  have hi : its.toArray.isEmpty = false := by
    cases its with
    | nil => exact absurd rfl hn
    | cons a b => rfl
  have c0 : (decide (k < -(2 ^ 63)) || decide (k ≥ 2 ^ 63)) = false := by
    rw [decide_eq_false (by omega), decide_eq_false (by omega)] <;> rfl
  have c1 : (its.toArray.isEmpty || k == 1) = false := by
    rw [hi, Bool.false_or]
    exact beq_eq_false_iff_ne.mpr (by omega)
  have c2 : (decide (k ≤ 0) || its.toArray.isEmpty) = true := by
    rw [decide_eq_true h1, Bool.true_or]
  refine wpAny_binaryOp_repeat_ref (T := "tuple") (U := "int") (by decide) ⟨_, ho, rfl⟩ (fun s' => typeIs_int s' k t) noFill_tuple_mul F.fills_int_mul F.slot_int_rmul repeat_tuple F.slot_int_index.lookup
    (call_meets F.slot_int_rmul (typeIs_int s k t) F.entry_int_rmul (F.args_int_rmul_2 _ _) (int_rmul_tuple k t l its.toArray n dd sl)
      ⟨ho, rfl, ⟨_, ho, rfl⟩, call_meets F.slot_tuple_mul ⟨_, ho, rfl⟩ F.entry_tuple_mul (F.args_tuple_mul_2 _ _) (tuple_mul0 l its.toArray n dd sl k t c0 c1 c2) ⟨ho, ?_⟩⟩)
  refine ⟨.ref s.heap.objs.size, _, I.laid (t' := s.toks) (o := .tup []) (fun b ob q => Heap.get?_push_of_some _ q) (Nat.le_refl _) ?_, rfl, q _ (I.hok.fresh (Nat.le_refl _))⟩
  exact ⟨Nat.zero_le _, _, .nil, IsTup.new _ _⟩
end
end L2
namespace Pz
open PySem PySem.Spec PyProof.Rows L2 TL
variable [PenC]
def oMulT (x y : Sl) (st : Sto) (Q : DK) : Prop := match vw st x, vw st y with
  | some (.tuple a), some (.int j) => a ≠ [] ∧ -1000 ≤ j ∧ j ≤ 1000 ∧ a.length ≤ 1000 ∧ Q (.d (.tuple (List.replicate j.toNat a).flatten)) st
  | _, _ => oMul x y st Q
def rMulT (K : Frag) : R2 := fun x y H Q => rRepT K x y H Q ∨ rRepT1 K x y H Q ∨ rRepT0 K x y H Q ∨ rMul x y H Q
theorem op_mulT {X : Cx} : OpR X (binaryOp .Mult) (rMulT X.K) := op_repT.or (op_repT1.or (op_repT0.or op_mulR))
theorem d2_mulT {K : Frag} : D2 K (rMulT K) oMulT := by
  intro Z v u s t Qd Q ok r1 r2 w k
  unfold oMulT at w
  split at w
  · rename_i a j e1 e2
    obtain ⟨hne, j0, j1, ha, w⟩ := w
    obtain ⟨l, xs, rfl, ht, q1⟩ := r1.tuple e1
    have hxl := q1.length
    have hx : xs ≠ [] := fun e => hne (by rw [e] at hxl; exact List.eq_nil_of_length_eq_zero hxl.symm)
    obtain rfl := r2.int e2
    by_cases c1 : j = 1
    · subst c1
      refine .inr (.inl ⟨l, xs, rfl, rfl, ht.sq, k.now ok (.tup ht q1) ?_⟩)
      rw [show (List.replicate (Int.toNat 1) a).flatten = a by simp [List.replicate]] at w
      exact w
    · by_cases c0 : j ≤ 0
      · refine .inr (.inr (.inl ⟨l, j, xs, rfl, rfl, ht.sq, hx, c0, j0, k.newT ok .nil ?_⟩))
        rw [show j.toNat = 0 by omega] at w
        exact w
      · exact .inl ⟨l, j, xs, rfl, rfl, ht.sq, hx, by omega, j1, by omega, k.newT ok (q1.rep _) w⟩
  · exact .inr (.inr (.inr (d2_mul _ _ _ _ _ _ _ ok r1 r2 w k)))
theorem oMulT_ap {x y : Sl} {st : Sto} {Q : DK} : oMulT x y st Q = (match vw st x, vw st y with
  | some (.tuple a), some (.int j) => a ≠ [] ∧ -1000 ≤ j ∧ j ≤ 1000 ∧ a.length ≤ 1000 ∧ Q (.d (.tuple (List.replicate j.toNat a).flatten)) st
  | _, _ => oMul x y st Q) := rfl
end Pz
set_option maxRecDepth 100000
namespace Pz
open PySem PySem.Spec PyProof.Rows L2 TL PySem.W
variable [PenC]
def DLs (h : Heap) (a : Addr) (ks vs : List V) : Prop := ∃ (o : Obj) (es : Array DictEntry) (ep : Nat), h.get? a = some o ∧ o.ExactDict ∧ o.data = .dict es ep ∧ (a == sysModules) = false ∧ Vals ks (es.toList.map (·.key)) ∧ Vals vs (es.toList.map (·.val)) ∧ es.size ≤ sizeLine
section
variable {P : Program} {w : World} {H : Hp} {h : Heap} {a : Addr} {X : Cx} {pins : List (Addr × Obj)} {σ : L2.St} {s : Shared}
theorem kv_vals {kvs : List (Key × V)} {xs : List (Key × Value)} (r : KV kvs xs) : ∀ {es : List DictEntry}, PySem.Pairs (mixKind P w) es xs → Vals (kvs.map fun p => kV p.1) (es.map (·.key)) ∧ Vals (kvs.map (·.2)) (es.map (·.val)) := by
  induction r with
  | nil => intro es p; cases p; exact ⟨.nil, .nil⟩
  | cons h _ ih =>
    intro es p
    cases p with
    | cons p1 p2 p3 =>
      obtain ⟨i1, i2⟩ := ih p3
      rename_i a b l1 l2 r0 e es'
      obtain ⟨ha, hb⟩ := h
      refine ⟨.cons ?_ i1, .cons (show RelV a.snd e.val by rw [p2]; exact hb) i2⟩
      show RelV (kV a.1) e.key
      rw [ha]
      exact relV_key (show keyIs b.1 e.key = true from p1)
theorem dls_K {kvs : List (Key × V)} (I : Inv X pins σ H s) (e : Rd H a (.dK kvs)) : DLs s.heap a (kvs.map fun p => kV p.1) (kvs.map (·.2)) := by
  have hh : L2.ObjOk X.prog X.w H s.heap a (.dK kvs) := by
    rcases e with e | ⟨o, e⟩
    · exact I.hok a _ e
    · exact (I.hok a _ e).2
  obtain ⟨z, q1, vs, kv, o, es, ep, g1, g2, g3, g4, g5, g6⟩ := hh
  obtain ⟨r1, r2⟩ := kv_vals kv g5
  have l : kvs.length = es.size := by simpa using r1.length
  exact ⟨o, es, ep, g1, g2, g3, q1, r1, r2, by omega⟩
theorem kt_vals {kvs : List (List Key × V)} {xs : List (List Key × Addr × Value)} (r : KT H kvs xs) : Vals ((xs.map fun x => V.ref x.2.1)) (xs.map fun x => Value.ref x.2.1) ∧ Vals (kvs.map (·.2)) (xs.map fun x => x.2.2) := by
  induction r with
  | nil => exact ⟨.nil, .nil⟩
  | cons h _ ih => exact ⟨.cons rfl ih.1, .cons h.2.2 ih.2⟩
theorem dls_T {kvs : List (List Key × V)} (I : Inv X pins σ H s) (e : Rd H a (.dT kvs)) : ∃ bs, L2.IsKeys H kvs bs ∧ DLs s.heap a (bs.map V.ref) (kvs.map (·.2)) := by
  have hh : L2.ObjOk X.prog X.w H s.heap a (.dT kvs) := by
    rcases e with e | ⟨o, e⟩
    · exact I.hok a _ e
    · exact (I.hok a _ e).2
  obtain ⟨z, q1, xs, kt, o, es, ep, g1, g2, g3, g5, g6⟩ := hh
  obtain ⟨r1, r2⟩ := kt_vals kt
  have l : es.size = xs.length := size_of_entries g5
  have l2 : kvs.length = xs.length := Paired.length kt
  refine ⟨xs.map fun x => x.2.1, isKeys_of kt, o, es, ep, g1, g2, g3, q1, ?_, ?_, by omega⟩
  · rw [g5, List.map_map, List.map_map]; exact r1
  · rw [g5, List.map_map]; exact r2
theorem items_vals {f : DictEntry → Value} {es : Array DictEntry} {acc : Array Value} {n : Nat} {P : Nat → Value → Prop} (hn : n = es.size) (h : ItemsOf P acc n) (hP : ∀ i v, P i v → ∃ e, es[i]? = some e ∧ v = f e) : acc.toList = es.toList.map f := by
  apply List.ext_getElem?
  intro j
  rw [List.getElem?_map, Array.getElem?_toList, Array.getElem?_toList]
  cases q : acc[j]? with
  | none =>
    have h1 := Array.getElem?_eq_none_iff.mp q
    have h2 := h.1
    rw [Array.getElem?_eq_none (by omega)]
    rfl
  | some v =>
    obtain ⟨e, e1, e2⟩ := hP j v (h.2 j v q)
    rw [e1, e2]
    rfl
end
section
variable {X : Cx}
def IsDV (H : Hp) (d : Addr) (vs : List V) : Prop := (∃ kvs : List (Key × V), Rd H d (.dK kvs) ∧ vs = kvs.map (·.2)) ∨ ∃ kvs : List (List Key × V), Rd H d (.dT kvs) ∧ vs = kvs.map (·.2)
def rListV : List V → Hp → VK → Prop := fun xs H Q => ∃ (p d : Addr) (vs : List V), xs = [.ref p] ∧ H p = some (viewO "dict_values" p d) ∧ IsDV H d vs ∧ ∀ q, H q = none → Q (.ref q) (upd H q (.lst vs))
def rSumV : List V → Hp → VK → Prop := fun xs H Q => ∃ (p d : Addr) (ns : List Int), xs = [.ref p] ∧ H p = some (viewO "dict_values" p d) ∧ IsDV H d (ns.map V.int) ∧ Q (.int ns.sum) H
end
end Pz
set_option maxRecDepth 100000
namespace Pz
open PySem PySem.Spec PyProof.Rows L2 TL PySem.W
variable [PenC]
section
variable {κ : Type} [DecidableEq κ]
def valG (kvs : List (κ × PyData)) (k : κ) : Option PyData := (kvs.find? fun kv => decide (kv.1 = k)).map (·.2)
def putG (kvs : List (κ × PyData)) (k : κ) (d : PyData) : List (κ × PyData) := if (kvs.any fun kv => decide (kv.1 = k)) = true then kvs.map fun kv => if kv.1 = k then (kv.1, d) else kv else kvs ++ [(k, d)]
def ImKG (K : Frag) (W : Addr → Prop) (H : Hp) (us : List (κ × V)) (kvs : List (κ × PyData)) : Prop := us.map (·.1) = kvs.map (·.1) ∧ ImAll K W H (us.map (·.2)) (kvs.map (·.2))
variable {K : Frag} {W : Addr → Prop} {H : Hp}
theorem ImKG.nil : ImKG K W H ([] : List (κ × V)) [] := ⟨rfl, .nil⟩
theorem ImKG.inv {us : List (κ × V)} {kvs : List (κ × PyData)} (h : ImKG K W H us kvs) : (us = [] ∧ kvs = []) ∨ ∃ k v d us' kvs', us = (k, v) :: us' ∧ kvs = (k, d) :: kvs' ∧ Im K W H v d ∧ ImKG K W H us' kvs' := by
  obtain ⟨h1, h2⟩ := h
  cases us with
  | nil => cases kvs with
    | nil => exact .inl ⟨rfl, rfl⟩
    | cons _ _ => cases h1
  | cons u us => cases kvs with
    | nil => cases h1
    | cons kv kvs =>
      obtain ⟨k, v⟩ := u
      obtain ⟨k', d⟩ := kv
      simp only [List.map_cons, List.cons.injEq] at h1
      obtain ⟨rfl, h1⟩ := h1
      cases h2 with
      | cons q r => exact .inr ⟨k, v, d, us, kvs, rfl, rfl, q, h1, r⟩
theorem ImKG.cons {k : κ} {v : V} {d : PyData} {us : List (κ × V)} {kvs : List (κ × PyData)} (q : Im K W H v d) (h : ImKG K W H us kvs) : ImKG K W H ((k, v) :: us) ((k, d) :: kvs) := ⟨by rw [List.map_cons, List.map_cons, h.1], .cons q h.2⟩
theorem ImKG.app {us us' : List (κ × V)} {kvs kvs' : List (κ × PyData)} (h : ImKG K W H us kvs) (h' : ImKG K W H us' kvs') : ImKG K W H (us ++ us') (kvs ++ kvs') := ⟨by rw [List.map_append, List.map_append, h.1, h'.1], by rw [List.map_append, List.map_append]; exact h.2.append h'.2⟩
theorem ImKG.any {k : κ} : ∀ {us : List (κ × V)} {kvs : List (κ × PyData)}, ImKG K W H us kvs → (us.any fun kv => decide (kv.1 = k)) = (kvs.any fun kv => decide (kv.1 = k))
  | [], _, h => by rcases h.inv with ⟨_, rfl⟩ | ⟨_, _, _, _, _, e, _⟩; rfl; cases e
  | u :: us, _, h => by
    rcases h.inv with ⟨e, _⟩ | ⟨k', v, d, us', kvs', e, rfl, q, h'⟩
    · cases e
    · cases e
      rw [List.any_cons, List.any_cons, ImKG.any h']
theorem ImKG.val {k : κ} {d : PyData} : ∀ {us : List (κ × V)} {kvs : List (κ × PyData)}, ImKG K W H us kvs → valG kvs k = some d → ∃ v, valV us k = some v ∧ Im K W H v d
  | [], _, h, e => by rcases h.inv with ⟨_, rfl⟩ | ⟨_, _, _, _, _, e', _⟩; cases e; cases e'
  | u :: us, _, h, e => by
    rcases h.inv with ⟨e', _⟩ | ⟨k', v, d', us', kvs', e', rfl, q, h'⟩
    · cases e'
    · cases e'
      by_cases hk : k' = k
      · subst hk
        simp [valG] at e
        subst e
        exact ⟨v, by simp [valV], q⟩
      · have e2 : valG kvs' k = some d := by simpa [valG, hk] using e
        obtain ⟨v', h1, h2⟩ := ImKG.val h' e2
        exact ⟨v', by simpa [valV, hk] using h1, h2⟩
theorem ImKG.noval {k : κ} : ∀ {us : List (κ × V)} {kvs : List (κ × PyData)}, ImKG K W H us kvs → valG kvs k = none → valV us k = none
  | [], _, h, e => rfl
  | u :: us, _, h, e => by
    rcases h.inv with ⟨e', _⟩ | ⟨k', v, d', us', kvs', e', rfl, q, h'⟩
    · cases e'
    · cases e'
      by_cases hk : k' = k
      · subst hk
        simp [valG] at e
      · have e2 : valG kvs' k = none := by simpa [valG, hk] using e
        simpa [valV, hk] using ImKG.noval h' e2
theorem ImKG.mapK {k : κ} {v : V} {d : PyData} (q : Im K W H v d) : ∀ {us : List (κ × V)} {kvs : List (κ × PyData)}, ImKG K W H us kvs → ImKG K W H (us.map fun kv => if kv.1 = k then (kv.1, v) else kv) (kvs.map fun kv => if kv.1 = k then (kv.1, d) else kv)
  | [], _, h => by rcases h.inv with ⟨_, rfl⟩ | ⟨_, _, _, _, _, e', _⟩; exact .nil; cases e'
  | u :: us, _, h => by
    rcases h.inv with ⟨e', _⟩ | ⟨k', v', d', us', kvs', e', rfl, q', h'⟩
    · cases e'
    · cases e'
      have ih := ImKG.mapK (k := k) q h'
      rw [List.map_cons, List.map_cons]
      dsimp only
      split
      · exact .cons q ih
      · exact .cons q' ih
theorem ImKG.put {k : κ} {v : V} {d : PyData} (q : Im K W H v d) {us : List (κ × V)} {kvs : List (κ × PyData)} (h : ImKG K W H us kvs) : ImKG K W H (putK us k v) (putG kvs k d) := by
  unfold putK putG
  rw [h.any]
  split
  · exact h.mapK q
  · exact h.app (.cons q .nil)
theorem ImKG.len {us : List (κ × V)} {kvs : List (κ × PyData)} (h : ImKG K W H us kvs) : us.length = kvs.length := by
  have := congrArg List.length h.1
  simpa using this
theorem ImKG.tr {W' : Addr → Prop} {H' : Hp} (s : Stay W W' H H') {us : List (κ × V)} {kvs : List (κ × PyData)} (h : ImKG K W H us kvs) : ImKG K W' H' us kvs := ⟨h.1, ImAll.tr s h.2⟩
theorem imKG_of {us : List (κ × V)} {ds : List PyData} (h3 : ImAll K W H (us.map (·.2)) ds) : ImKG K W H us ((us.map (·.1)).zip ds) := by
  have l : ds.length = us.length := by rw [← h3.length, List.length_map]
  refine ⟨?_, ?_⟩
  · rw [List.map_fst_zip]
    rw [List.length_map]; omega
  · rw [List.map_snd_zip]
    · exact h3
    · rw [List.length_map]; omega
end
abbrev KTD := List (List Key × PyData)
def ktD (kvs : KTD) : List (PyData × PyData) := kvs.map fun p => (kyT p.1, p.2)
def keysL : List PyData → Option (List Key)
  | [] => some []
  | d :: r => match keyOf d, keysL r with
    | some k, some r => some (k :: r)
    | _, _ => none
def keyT : PyData → Option (List Key)
  | .tuple ds => keysL ds
  | _ => none
theorem keysL_keyD : ∀ ks : List Key, keysL (ks.map keyD) = some ks
  | [] => rfl
  | k :: r => by rw [List.map_cons, keysL, keyOf_keyD, keysL_keyD r]
theorem keyT_kyT (k : List Key) : keyT (kyT k) = some k := keysL_keyD k
def unTE : List (PyData × PyData) → Option KTD
  | [] => some []
  | (k, d) :: r => match keyT k, unTE r with
    | some k, some r => some ((k, d) :: r)
    | _, _ => none
def unKT : List (PyData × PyData) → Option KTD
  | (.none, .bool true) :: r => unTE r
  | _ => none
theorem unTE_ktD : ∀ kvs : KTD, unTE (ktD kvs) = some kvs
  | [] => rfl
  | (k, d) :: r => by
    show unTE ((kyT k, d) :: ktD r) = _
    rw [unTE, keyT_kyT, unTE_ktD r]
theorem unKT_ktD (kvs : KTD) : unKT (mkT :: ktD kvs) = some kvs := unTE_ktD kvs
theorem zip_kt {us : List (List Key × V)} {ds : List PyData} : (us.map fun p => kyT p.1).zip ds = ktD ((us.map (·.1)).zip ds) := by
  unfold ktD
  induction us generalizing ds with
  | nil => simp
  | cons u us ih =>
    cases ds with
    | nil => simp
    | cons d ds => rw [List.map_cons, List.map_cons, List.zip_cons_cons, List.zip_cons_cons, List.map_cons, ih]
section
variable {K : Frag} {W : Addr → Prop} {H : Hp} {Z : Zs}
theorem im_dicT {v : V} {l : List (PyData × PyData)} {kvs : KTD} (h : Im K W H v (.dict l)) (hk : unKT l = some kvs) : ∃ a o us, v = .ref a ∧ H a = some (.frz o (.dT us)) ∧ ¬ W a ∧ ImKG K W H us kvs := by
  generalize hx : PyData.dict l = x at h
  cases h with
  | dct h1 h2 h3 =>
    rename_i a us ds
    cases hx
    cases us with
    | nil => cases hk
    | cons u us =>
      cases ds with
      | nil => cases hk
      | cons d ds => obtain ⟨⟨k | k⟩, w⟩ := u <;> cases hk
  | dcl h1 h2 h3 => cases hx; cases hk
  | dcT h1 h2 h3 =>
    rename_i a o us ds
    cases hx
    rw [zip_kt, unKT_ktD] at hk
    cases hk
    exact ⟨a, o, us, rfl, h1, h2, imKG_of h3⟩
  | _ => cases hx
def kyS (st : Sto) (s : Sl) : Option (List Key) := (vw st s).bind keyT
theorem im_keys {xs : List V} {ds : List PyData} {k : List Key} (h : ImAll K W H xs ds) : keysL ds = some k → xs = k.map kV := by
  intro e
  induction ds generalizing xs k with
  | nil => cases h; cases e; rfl
  | cons d ds ih =>
    cases h with
    | cons a b =>
      unfold keysL at e
      split at e
      · rename_i k1 r1 e1 e2
        cases e
        rw [List.map_cons, ih b e2]
        cases a <;> cases e1 <;> rfl
      · cases e
theorem kyS_ok (nk : ¬ TabC.kw) {v : V} {s : Sl} {k : List Key} (r : Rp K Z v s) (h : kyS Z.st s = some k) : ∃ b, v = .ref b ∧ Z.H b = some (.tup (k.map kV)) := by
  unfold kyS at h
  cases e : vw Z.st s with
  | none => rw [e] at h; cases h
  | some d =>
    rw [e] at h
    change keyT d = some k at h
    cases d with
    | tuple ds =>
      obtain ⟨a, xs, rfl, h1, h2⟩ := r.tuple e
      obtain rfl := im_keys h2 h
      rcases h1 with h1 | h1
      · exact ⟨a, rfl, h1.1⟩
      · exact absurd h1.1 nk
    | _ => cases h
def dtAt (st : Sto) : Sl → Option KTD
  | .o h => match st[h]? with
    | some (.dT kvs) => some kvs
    | _ => none
  | .d (.dict l) => unKT l
  | _ => none
theorem dtAt_o {st : Sto} {h : Nat} : dtAt st (.o h) = (match st[h]? with
    | some (.dT kvs) => some kvs
    | _ => none) := rfl
theorem dtAt_ok (ok : Ok K Z) {v : V} {s : Sl} {kvs : KTD} (r : Rp K Z v s) (h : dtAt Z.st s = some kvs) : ∃ a us, v = .ref a ∧ Rd Z.H a (.dT us) ∧ ImKG K Z.W Z.H us kvs := by
  unfold dtAt at h
  split at h
  · rename_i i
    split at h
    · rename_i kvs' e
      cases h
      obtain ⟨a, c, rfl, e1, e2, e3⟩ := r
      rw [e] at e2
      cases e2
      obtain ⟨us, q1, q2, q3⟩ := ok.ct i a _ e1 e
      exact ⟨a, us, rfl, .inl q1, q2, q3⟩
    · cases h
  · rename_i l
    obtain ⟨a, o, us, rfl, q1, q2, q3⟩ := im_dicT (show Z.Im K v (.dict l) from r) h
    exact ⟨a, us, rfl, .inr ⟨o, q1⟩, q3⟩
  · cases h
def dkAny (st : Sto) : Sl → Option KD
  | .o h => match st[h]? with
    | some (.dK kvs) => some kvs
    | _ => none
  | .d (.dict l) => unKD l
  | _ => none
theorem dkAny_ok (ok : Ok K Z) {v : V} {s : Sl} {kvs : KD} (r : Rp K Z v s) (h : dkAny Z.st s = some kvs) : ∃ a us, v = .ref a ∧ Rd Z.H a (.dK us) ∧ ImKG K Z.W Z.H us kvs := by
  unfold dkAny at h
  split at h
  · rename_i i
    split at h
    · rename_i kvs' e
      cases h
      obtain ⟨a, c, rfl, e1, e2, e3⟩ := r
      rw [e] at e2
      cases e2
      obtain ⟨us, q1, q2, q3⟩ := ok.ct i a _ e1 e
      exact ⟨a, us, rfl, .inl q1, q2, q3⟩
    · cases h
  · rename_i l
    obtain ⟨a, us, rfl, q1, q2, q3⟩ := im_dict (show Z.Im K v (.dict l) from r) h
    exact ⟨a, us, rfl, q1, q3⟩
  · cases h
def dvAt (st : Sto) (s : Sl) : Option (List PyData) := match dkAny st s with
  | some kvs => some (kvs.map (·.2))
  | none => match dtAt st s with
    | some kvs => some (kvs.map (·.2))
    | none => none
end
theorem Rd.upd {H : Hp} {a p : Addr} {u o : HO} (h : Rd H a u) (n : H p = none) : Rd (upd H p o) a u := by
  have ne : a ≠ p := fun z => by subst z; rcases h with h | ⟨_, h⟩ <;> rw [n] at h <;> cases h
  rcases h with h | ⟨q, h⟩
  · exact .inl (by rw [upd_ne ne]; exact h)
  · exact .inr ⟨q, by rw [upd_ne ne]; exact h⟩
theorem IsDV.upd {H : Hp} {a p : Addr} {vs : List V} {o : HO} (h : IsDV H a vs) (n : H p = none) : IsDV (upd H p o) a vs := h.elim (fun ⟨k, e, q⟩ => .inl ⟨k, Rd.upd e n, q⟩) fun ⟨k, e, q⟩ => .inr ⟨k, Rd.upd e n, q⟩
section
variable {X : Cx} {E : WXs} {e : Expr} {te : DE} {td : TE} {apos cpos pos p : Pos}
def tVals (td : TE) : TE := fun σ H Q => td σ H fun x H1 => ∃ (a : Addr) (vs : List V), x = .ref a ∧ IsDV H1 a vs ∧ ∀ p, H1 p = none → Q (.ref p) (upd H1 p (viewO "dict_values" p a))
def wListV (te : DE) : DE := fun Ed sl st Q => te Ed sl st fun s st => match dvAt st s with
  | some ds => Q (.d (.list ds)) st
  | none => False
theorem wListV_ap {Ed : DX} {sl : Sls} {st : Sto} {Q : DK} : wListV te Ed sl st Q = (te Ed sl st fun s st => match dvAt st s with
  | some ds => Q (.d (.list ds)) st
  | none => False) := rfl
def wSumV (te : DE) : DE := fun Ed sl st Q => te Ed sl st fun s st => match dvAt st s with
  | some ds => ∃ ns : List Int, ds = ns.map .int ∧ Q (.d (.int ns.sum)) st
  | none => False
theorem wSumV_ap {Ed : DX} {sl : Sls} {st : Sto} {Q : DK} : wSumV te Ed sl st Q = (te Ed sl st fun s st => match dvAt st s with
  | some ds => ∃ ns : List Int, ds = ns.map .int ∧ Q (.d (.int ns.sum)) st
  | none => False) := rfl
end
end Pz
set_option maxRecDepth 100000
namespace Pz
open PySem PySem.Spec PyProof.Rows L2 TL PySem.W
variable [PenC]
section
variable {X : Cx} {E : WXs} {Z0 : Zs} {a b c e o f : Expr} {ta tb tc te ti to td ty tx : DE} {pos apos cpos : Pos} {K : Frag}
def oTGet (s t : Sl) (st : Sto) (Q : DK) : Prop := match dtAt st s, kyS st t with
  | some kvs, some k => ∃ d, valG kvs k = some d ∧ Q (.d d) st
  | _, _ => False
theorem tget_ok (nk : ¬ TabC.kw) (σ : L2.St) (H : Hp) (Q : VK) (h : upE K E (wOp oTGet ta tb) σ H Q) : tDGet (upE K E ta) (upE K E tb) σ H Q := by
  obtain ⟨Z, sl, Qd, Ed, h, ok, so, w, k, kx⟩ := h
  refine ⟨Z, sl, _, Ed, h, ok, so, w, fun Z1 x s l1 ok1 r1 w1 => ?_, kx⟩
  refine ⟨Z1, sl, _, Ed, rfl, ok1, so.tr l1, w1, fun Z2 y t l2 ok2 r2 w2 => ?_, kx.le l1⟩
  dsimp only [oTGet] at w2
  split at w2
  · rename_i kvs key e1 e2
    obtain ⟨d, ed, q⟩ := w2
    obtain ⟨a, us, rfl, q1, q2⟩ := dtAt_ok ok2 (r1.tr l2) e1
    obtain ⟨b, rfl, eb⟩ := kyS_ok nk r2 e2
    obtain ⟨v, ev, iv⟩ := q2.val ed
    refine ⟨a, v, rfl, .inr ⟨us, key, b, q1, rfl, eb, ev.symm⟩, ?_⟩
    exact k Z2 v (.d d) (l1.trans l2) ok2 iv q
  · exact w2.elim
theorem de_tget (nk : ¬ TabC.kw) (hu : X.A.units + 1 < cLine) (ha : DEx X E a ta) (hb : DEx X E b tb) (hs : NoSl b := by intro _ _; rfl) : DEx X E (.Subscript a b pos) (wOp oTGet ta tb) := ⟨peI (pe_dget hu ha.run hb.run hs) (tget_ok nk)⟩
def dinS (st : Sto) (s t : Sl) : Option Bool := match dkAny st t with
  | some kvs => (keyS st s).map fun k => (valG kvs k).isSome
  | none => match dtAt st t with
    | some kvs => (kyS st s).map fun k => (valG kvs k).isSome
    | none => none
def wDIn (neg : Bool) (ta tb : DE) : DE := fun Ed sl st Q => ta Ed sl st fun s st => tb Ed sl st fun t st => match dinS st s t with
  | some b => Q (.d (.bool (b != neg))) st
  | none => False
theorem wDIn_ap {neg : Bool} {Ed : DX} {sl : Sls} {st : Sto} {Q : DK} : wDIn neg ta tb Ed sl st Q = (ta Ed sl st fun s st => tb Ed sl st fun t st => match dinS st s t with
  | some b => Q (.d (.bool (b != neg))) st
  | none => False) := rfl
theorem valG_some {κ : Type} [DecidableEq κ] {W : Addr → Prop} {H : Hp} {us : List (κ × V)} {kvs : List (κ × PyData)} {k : κ} (h : ImKG K W H us kvs) : (valV us k).isSome = (valG kvs k).isSome := by
  cases e : valG kvs k with
  | none => rw [h.noval e]; rfl
  | some d => obtain ⟨v, ev, _⟩ := h.val e; rw [ev]; rfl
theorem dinS_ok (nk : ¬ TabC.kw) {Z : Zs} (ok : Ok K Z) {v u : V} {s t : Sl} {b : Bool} (r1 : Rp K Z v s) (r2 : Rp K Z u t) (h : dinS Z.st s t = some b) : ∃ a ov, u = .ref a ∧ DGet Z.H a v ov ∧ ov.isSome = b := by
  unfold dinS at h
  split at h
  · rename_i kvs e
    cases ek : keyS Z.st s with
    | none => rw [ek] at h; cases h
    | some k =>
      rw [ek] at h
      cases h
      obtain ⟨a, us, rfl, q1, q2⟩ := dkAny_ok ok r2 e
      exact ⟨a, _, rfl, .inl ⟨us, k, q1, keyS_ok r1 ek, rfl⟩, valG_some q2⟩
  · split at h
    · rename_i kvs e
      cases ek : kyS Z.st s with
      | none => rw [ek] at h; cases h
      | some k =>
        rw [ek] at h
        cases h
        obtain ⟨a, us, rfl, q1, q2⟩ := dtAt_ok ok r2 e
        obtain ⟨b, rfl, eb⟩ := kyS_ok nk r1 ek
        exact ⟨a, _, rfl, .inr ⟨us, k, b, q1, rfl, eb, rfl⟩, valG_some q2⟩
    · cases h
theorem dnotin_ok (nk : ¬ TabC.kw) (σ : L2.St) (H : Hp) (Q : VK) (h : upE K E (wDIn true ta tb) σ H Q) : tDNotIn (upE K E ta) (upE K E tb) σ H Q := by
  obtain ⟨Z, sl, Qd, Ed, h, ok, so, w, k, kx⟩ := h
  refine ⟨Z, sl, _, Ed, h, ok, so, w, fun Z1 x s l1 ok1 r1 w1 => ?_, kx⟩
  refine ⟨Z1, sl, _, Ed, rfl, ok1, so.tr l1, w1, fun Z2 y t l2 ok2 r2 w2 => ?_, kx.le l1⟩
  dsimp only at w2
  split at w2
  · rename_i b e
    obtain ⟨a, ov, rfl, g, e2⟩ := dinS_ok nk ok2 (r1.tr l2) r2 e
    refine ⟨a, ov, rfl, g, k Z2 _ (.d (.bool (!ov.isSome))) (l1.trans l2) ok2 (Im.bl _) ?_⟩
    rw [e2]
    cases b <;> exact w2
  · exact w2.elim
theorem dt_dnin (nk : ¬ TabC.kw) (hu : X.A.units + 1 < cLine) (ha : DEx X E a ta) (hb : DEx X E b tb) (hm : behindInMarks .NotIn b = false) : DTs X E (.Compare a [.NotIn] [b] pos) (wTest (wDIn true ta tb)) :=
  ⟨ptI (pt_cmp (pc_dnotin hu ha.run hb.run) hm) fun σ H Q h => dnotin_ok nk σ H _ (by
    obtain ⟨Z, sl, Qd, Ed, e, ok, so, w, k, kx⟩ := h
    exact ⟨Z, sl, _, Ed, e, ok, so, w, (fun Z1 v s l1 ok1 r1 w1 => by
      simp only at w1
      split at w1
      · cases r1
        exact ⟨_, rfl, k Z1 _ l1 ok1 w1⟩
      · exact w1.elim), kx⟩)⟩
def wTGet2 (td ty tx : DE) : DE := fun Ed sl st Q => td Ed sl st fun s st => (dtAt st s).isSome = true ∧ ty Ed sl st fun t st => tx Ed sl st fun u st => match dtAt st s, kyS st t with
  | some kvs, some k => match valG kvs k with
    | some d => Q (.d d) st
    | none => Q u st
  | _, _ => False
theorem wTGet2_ap {Ed : DX} {sl : Sls} {st : Sto} {Q : DK} : wTGet2 td ty tx Ed sl st Q = (td Ed sl st fun s st => (dtAt st s).isSome = true ∧ ty Ed sl st fun t st => tx Ed sl st fun u st => match dtAt st s, kyS st t with
  | some kvs, some k => match valG kvs k with
    | some d => Q (.d d) st
    | none => Q u st
  | _, _ => False) := rfl
theorem Rp.hdT {Z : Zs} (ok : Ok K Z) {v : V} {h : Nat} {kvs : KTD} (r : Rp K Z v (.o h)) (e : Z.st[h]? = some (.dT kvs)) : ∃ a us, v = .ref a ∧ Z.φ[h]? = some a ∧ Z.H a = some (.dT us) ∧ ImKG K Z.W Z.H us kvs := by
  obtain ⟨a, c, ev, e1, e2, e3⟩ := r
  rw [e] at e2
  cases e2
  obtain ⟨us, q, q1, q2⟩ := ok.ct h a _ e1 e
  exact ⟨a, us, ev, e1, q, q1, q2⟩
def wTPut (te to ti : DE) : DS := fun D sl st => te D.ex sl st fun v st => to D.ex sl st fun o st => ti D.ex sl st fun i st => match o, v, kyS st i with
  | .o h, .d y, some k => match st[h]? with
    | some (.dT kvs) => kvs.length < sizeLine ∧ D.nx sl (st.set h (.dT (putG kvs k y)))
    | _ => False
  | _, _, _ => False
theorem wTPut_ap {nx bk ct : Sls → Sto → Prop} {rt : DK} {ex : DX} {sl : Sls} {st : Sto} : wTPut te to ti ⟨nx, rt, ex, bk, ct⟩ sl st = (te ex sl st fun v st => to ex sl st fun o st => ti ex sl st fun i st => match o, v, kyS st i with
  | .o h, .d y, some k => match st[h]? with
    | some (.dT kvs) => kvs.length < sizeLine ∧ nx sl (st.set h (.dT (putG kvs k y)))
    | _ => False
  | _, _, _ => False) := rfl
theorem ds_tput (nk : ¬ TabC.kw) {ob ix : Expr} {tpos : Pos} (hu : X.A.units + 1 < cLine) (he : DEx X E e te) (ho : DEx X E ob to) (hi : DEx X E ix ti)
    (hs : swapsWith e (some (.Subscript ob ix tpos)) pos.line X.env = pure false := by rfl) : DSt X E Z0 (.Assign [.Subscript ob ix tpos] e pos) (wTPut te to ti) :=
  ⟨psI (ps_dput hu ho.run hi.run he.run hs) fun D σ H ⟨Z, sl, Dd, h, l0, ok, so, w, en⟩ =>
    ⟨Z, sl, _, Dd.ex, h, ok, so, w, fun Z1 v s l1 ok1 r1 w1 => ⟨Z1, sl, _, Dd.ex, rfl, ok1, so.tr l1, w1, fun Z2 u t l2 ok2 r2 w2 => ⟨Z2, sl, _, Dd.ex, rfl, ok2, (so.tr l1).tr l2, w2, fun Z3 i y l3 ok3 r3 w3 => by
      simp only at w3
      split at w3
      · rename_i hh d k ek
        split at w3
        · rename_i kvs es
          obtain ⟨a, us, rfl, e1, q, r⟩ := (r2.tr l3).hdT ok3 es
          obtain ⟨b, rfl, eb⟩ := kyS_ok nk r3 ek
          have rv : Z3.Im X.K v d := (r1.tr l2).tr l3
          refine ⟨a, _, rfl, .inr ⟨us, k, b, q, rfl, eb, by rw [r.len]; exact w3.1, rfl⟩, ?_⟩
          have l := ok3.lePut (o := .dT (putK us k v)) (c' := .dT (putG kvs k d)) e1 es trivial trivial
          have lz := ((l1.trans l2).trans l3).trans l
          have rr := (r.put (k := k) rv).tr l.stay
          exact en.nx (Z3.put hh a (.dT (putK us k v)) (.dT (putG kvs k d))) sl σ (l0.trans lz) lz.stay (ok3.put e1 es trivial trivial ⟨_, upd_same, rr.1, rr.2⟩) (so.tr lz) w3.2
        · exact w3.elim
      · exact w3.elim, (en.ex.le l0).le (l1.trans l2)⟩, (en.ex.le l0).le l1⟩, en.ex.le l0⟩⟩
def wDAug (f : Sl → Sl → Sto → DK → Prop) (to ti te : DE) : DS := fun D sl st => to D.ex sl st fun o st => ti D.ex sl st fun i st => match o, keyS st i with
  | .o h, some k => match st[h]? with
    | some (.dK kvs) => ∃ d, valD kvs k = some d ∧ te D.ex sl st fun y st2 => st2 = st ∧ f (.d d) y st fun z st3 => match z with
      | .d z => st3 = st ∧ kvs.length < sizeLine ∧ D.nx sl (st.set h (.dK (putD kvs k z)))
      | _ => False
    | _ => False
  | _, _ => False
theorem wDAug_ap {f : Sl → Sl → Sto → DK → Prop} {nx bk ct : Sls → Sto → Prop} {rt : DK} {ex : DX} {sl : Sls} {st : Sto} : wDAug f to ti te ⟨nx, rt, ex, bk, ct⟩ sl st = (to ex sl st fun o st => ti ex sl st fun i st => match o, keyS st i with
  | .o h, some k => match st[h]? with
    | some (.dK kvs) => ∃ d, valD kvs k = some d ∧ te ex sl st fun y st2 => st2 = st ∧ f (.d d) y st fun z st3 => match z with
      | .d z => st3 = st ∧ kvs.length < sizeLine ∧ nx sl (st.set h (.dK (putD kvs k z)))
      | _ => False
    | _ => False
  | _, _ => False) := rfl
theorem Le.at_o {Z Z' : Zs} (l : Le Z Z') {i : Nat} {a : Addr} (e : Z.φ[i]? = some a) : Z'.φ[i]? = some a := by
  obtain ⟨ψ, q, _⟩ := l.pre
  rw [q, List.getElem?_append_left (List.getElem?_eq_some_iff.mp e).1]
  exact e
end
end Pz
set_option maxRecDepth 100000
namespace Pz
open PySem PySem.Spec PyProof.Rows L2 TL PySem.W
variable [PenC]
section
variable {X : Cx} {E : WXs} {Z0 : Zs} {K : Frag} {rest : List Stmt} {u : DS}
def wFrzL (n0 i : Nat) (u : DS) : DS := fun D sl st => match nthS sl i with
  | some (.o h) => match st[h]? with
    | some (.dK kvs) => n0 ≤ h ∧ (∀ c ∈ st, NoRef h c) ∧ u D (sl.map (frzX h (.dict (mkK :: kdD kvs)))) (st.set h .dead)
    | some (.dT kvs) => n0 ≤ h ∧ (∀ c ∈ st, NoRef h c) ∧ u D (sl.map (frzX h (.dict (mkT :: ktD kvs)))) (st.set h .dead)
    | _ => False
  | _ => u D sl st
theorem wFrzL_ap {n0 i : Nat} {u : DS} {nx bk ct : Sls → Sto → Prop} {rt : DK} {ex : DX} {sl : Sls} {st : Sto} : wFrzL n0 i u ⟨nx, rt, ex, bk, ct⟩ sl st = (match nthS sl i with
  | some (.o h) => match st[h]? with
    | some (.dK kvs) => n0 ≤ h ∧ (∀ c ∈ st, NoRef h c) ∧ u ⟨nx, rt, ex, bk, ct⟩ (sl.map (frzX h (.dict (mkK :: kdD kvs)))) (st.set h .dead)
    | some (.dT kvs) => n0 ≤ h ∧ (∀ c ∈ st, NoRef h c) ∧ u ⟨nx, rt, ex, bk, ct⟩ (sl.map (frzX h (.dict (mkT :: ktD kvs)))) (st.set h .dead)
    | _ => False
  | _ => u ⟨nx, rt, ex, bk, ct⟩ sl st) := rfl
end
end Pz
set_option maxRecDepth 100000
namespace Pz
open PySem PySem.Spec PyProof.Rows L2 TL PySem.W
variable [PenC]
def DLo (o : Obj) (ks vs : List V) : Prop := ∃ (es : Array DictEntry) (ep : Nat), o.ExactDict ∧ o.data = .dict es ep ∧ Vals ks (es.toList.map (·.key)) ∧ Vals vs (es.toList.map (·.val))
section
variable {X : Cx} {pins : List (Addr × Obj)} {σ : L2.St} {H : Hp} {s : Shared} {d : Addr} {o : Obj}
end
def ItDV (d : Addr) (o : Obj) (u : HO) (vs : List V) : It :=
  ⟨fun i H => H d = some (.frz o u) ∧ i < vs.length, fun i H x H' => H' = H ∧ vs[i]? = some x, fun i H => H d = some (.frz o u) ∧ vs.length ≤ i⟩
def ItDI (d : Addr) (o : Obj) (u : HO) (ks vs : List V) : It :=
  ⟨fun i H => H d = some (.frz o u) ∧ i < vs.length, fun i H x H' => ∃ T k v, ks[i]? = some k ∧ vs[i]? = some v ∧ x = .ref T ∧ H T = none ∧ H' = upd H T (.tup [k, v]), fun i H => H d = some (.frz o u) ∧ vs.length ≤ i⟩
section
variable {P : Program} {w : World} {K : Frag} {d : Addr} {o : Obj} {u : HO} {ks vs : List V} {es : Array DictEntry} {ep : Nat}
end
section
variable {X : Cx} {E : WXs} {tg e : Expr} {td : TE} {te : DE} {apos cpos : Pos} {K : Frag}
def LkAt (H : Hp) (x : V) (d : Addr) (o : Obj) (u : HO) (vs : List V) : Prop := x = .ref d ∧ H d = some (.frz o u) ∧ ((∃ kvs : List (Key × V), u = .dK kvs ∧ vs = kvs.map (·.2)) ∨ ∃ kvs : List (List Key × V), u = .dT kvs ∧ vs = kvs.map (·.2))
def KsOf (H : Hp) (u : HO) (ks : List V) : Prop := (∃ kvs : List (Key × V), u = .dK kvs ∧ ks = kvs.map fun p => kV p.1) ∨ ∃ (kvs : List (List Key × V)) (bs : List Addr), u = .dT kvs ∧ L2.IsKeys H kvs bs ∧ ks = bs.map V.ref
def iDV (td : TE) : TI := fun σ H R => td σ H fun x H1 => ∃ d o u vs, LkAt H1 x d o u vs ∧ R (ItDV d o u vs) H1
def iDI (td : TE) : TI := fun σ H R => td σ H fun x H1 => ∃ d o u vs, LkAt H1 x d o u vs ∧ ∀ ks, KsOf H1 u ks → R (ItDI d o u ks vs) H1
def lkP : Sl → Option (List (PyData × PyData))
  | .d (.dict ((.none, .bool _) :: r)) => some r
  | _ => none
theorem lkP_K {r : List (PyData × PyData)} : lkP (.d (.dict (mkK :: r))) = some r := rfl
theorem lkP_T {r : List (PyData × PyData)} : lkP (.d (.dict (mkT :: r))) = some r := rfl
theorem im_keyD {W : Addr → Prop} {H : Hp} : ∀ k : Key, Im K W H (kV k) (keyD k)
  | .inl i => .int i
  | .inr x => .str x
theorem im_keyDs {W : Addr → Prop} {H : Hp} : ∀ ks : List Key, ImAll K W H (ks.map kV) (ks.map keyD)
  | [] => .nil
  | k :: r => .cons (im_keyD k) (im_keyDs r)
def wItV (te : DE) : DI := fun Ed sl st Q => te Ed sl st fun s st => match lkP s with
  | some ps => Q (ps.map (·.2)) st
  | none => False
theorem wItV_ap {Ed : DX} {sl : Sls} {st : Sto} {Q : List PyData → Sto → Prop} : wItV te Ed sl st Q = (te Ed sl st fun s st => match lkP s with
  | some ps => Q (ps.map (·.2)) st
  | none => False) := rfl
def wItI (te : DE) : DI := fun Ed sl st Q => te Ed sl st fun s st => match lkP s with
  | some ps => Q (ps.map fun p => .tuple [p.1, p.2]) st
  | none => False
theorem wItI_ap {Ed : DX} {sl : Sls} {st : Sto} {Q : List PyData → Sto → Prop} : wItI te Ed sl st Q = (te Ed sl st fun s st => match lkP s with
  | some ps => Q (ps.map fun p => .tuple [p.1, p.2]) st
  | none => False) := rfl
def wItK (te : DE) : DI := fun Ed sl st Q => te Ed sl st fun s st => match lkP s with
  | some ps => Q (ps.map (·.1)) st
  | none => False
theorem wItK_ap {Ed : DX} {sl : Sls} {st : Sto} {Q : List PyData → Sto → Prop} : wItK te Ed sl st Q = (te Ed sl st fun s st => match lkP s with
  | some ps => Q (ps.map (·.1)) st
  | none => False) := rfl
end
end Pz
set_option maxRecDepth 100000
namespace Pz
open PySem PySem.Spec PyProof.Rows L2 TL PySem.W
variable [PenC]
section
variable {X : Cx} {E : WXs} {ke ve : Expr} {tk tv : TE} {dk dv : DE} {pos : Pos} {K : Frag}
def tDisp1 (tk tv : TE) : TE := fun σ H Q => ∀ p, H p = none → tk σ (upd H p (.dT [])) fun x H1 => tv σ H1 fun y H2 => H2 p = some (.dT []) ∧ ∃ (k : List Key) (b : Addr), x = .ref b ∧ H2 b = some (.tup (k.map kV)) ∧ Q (.ref p) (upd H2 p (.dT [(k, y)]))
theorem pe_disp1 (hu : X.A.units + 1 < cLine) (hk : PE X ke tk) (hv : PE X ve tv) : PE X (.Dict [some ke] [ve] pos) (tDisp1 tk tv) := by
  refine ⟨fun pins s σ H Q I q => ?_⟩
  have hn := I.hok.fresh (Nat.le_refl s.heap.objs.size)
  have I1 := I.laid (a := s.heap.objs.size) (o := .dT []) (h' := s.heap.push { cls := .type "dict", data := .dict #[] }) (t' := s.toks) (fun _ _ q => Heap.get?_push_of_some _ q) (Nat.le_refl _) (L2.dt_empty s.heap I.big)
  have hr : (tupleKind (mixKind X.prog X.w)).room X.A := (show X.A.units < cLine by omega)
  rw [arm_eval_Dict, zip_pairTrees [some ke] [ve] X.env pos rfl rfl, dictDisplay_pairs _ (by simp [pairTrees]) (by simp [pairTrees])]
  refine wpAny_bind (wpAny_standAt (wpAny_bind (wpAny_subDictH (knd := tupleKind (mixKind X.prog X.w)) (Q := fun d s' => wpAny (model X.prog X.w) X.A (pure (Value.ref d)) (EP X pins σ Q) X.xe s') hr (by simp [pairTrees])
    (thn ((L2.pps_cons hk hv L2.pps_nil).run pins _ σ _ (fun ps H2 => match ps with
      | [(x, y)] => H2 s.heap.objs.size = some (.dT []) ∧ ∃ (k : List Key) (b : Addr), x = .ref b ∧ H2 b = some (.tup (k.map kV)) ∧ Q (.ref s.heap.objs.size) (upd H2 s.heap.objs.size (.dT [(k, y)]))
      | _ => False) I1 (q _ hn)) fun ws s2 ⟨ps, H2, I2, rel, w⟩ => ?_))))
  split at w
  · rename_i x y
    obtain ⟨e0, k, b, ex, eb, q2⟩ := w
    subst ex
    cases rel with
    | @cons p u l1 l2 h t =>
      cases t
      obtain ⟨r1, r2⟩ := h
      obtain ⟨u1, u2⟩ := u
      obtain rfl : u1 = Value.ref b := r1
      obtain ⟨z, hd, xs, kt, dd⟩ := L2.dt_of I2.hok e0
      cases kt
      refine ⟨[(k, b, u2)], ⟨rfl, rfl, L2.key_of I2.hok eb, trivial⟩, dd, fun h' tk' dd' hs => wpAny_pure ?_⟩
      refine ⟨.ref s.heap.objs.size, _, ?_, rfl, q2⟩
      obtain ⟨o, es, ep', g1, g2, g3, g4, g5, g6⟩ := dd'
      refine L2.d_write I2 (by rw [e0]; exact True.intro) hs ⟨o, g1⟩ ⟨by rw [List.length_singleton, sizeLine_eq]; omega, hd, [(k, b, u2)], .cons ⟨rfl, ?_, r2⟩ .nil, o, es, ep', g1, g2, g3, g4, g6⟩
      rw [upd_ne (L2.ne_of eb e0 (fun z => nomatch z))]
      exact eb
  · exact w.elim
def wDisp1 (tk tv : DE) : DE := fun Ed sl st Q => tk Ed sl (st ++ [.dT []]) fun s st1 => tv Ed sl st1 fun t st2 => match kyS st2 s, t with
  | some k, .d y => st2[st.length]? = some (.dT []) ∧ Q (.o st.length) (st2.set st.length (.dT [(k, y)]))
  | _, _ => False
theorem wDisp1_ap {Ed : DX} {sl : Sls} {st : Sto} {Q : DK} : wDisp1 dk dv Ed sl st Q = (dk Ed sl (st ++ [.dT []]) fun s st1 => dv Ed sl st1 fun t st2 => match kyS st2 s, t with
  | some k, .d y => st2[st.length]? = some (.dT []) ∧ Q (.o st.length) (st2.set st.length (.dT [(k, y)]))
  | _, _ => False) := rfl
theorem de_disp1 (nk : ¬ TabC.kw) (hu : X.A.units + 1 < cLine) (hk : DEx X E ke dk) (hv : DEx X E ve dv) : DEx X E (.Dict [some ke] [ve] pos) (wDisp1 dk dv) :=
  ⟨peI (pe_disp1 hu hk.run hv.run) fun σ H Q ⟨Z, sl, Qd, Ed, h, ok, so, w, k, kx⟩ p n => by
    subst h
    have l := ok.leOwn (o := .dT []) (ct := .dT []) n
    have okN : Ok X.K (Z.own p (.dT []) (.dT [])) := ok.own n ⟨[], upd_same, rfl, .nil⟩
    refine ⟨Z.own p (.dT []) (.dT []), sl, _, Ed, rfl, okN, so.tr l, w, fun Z1 x s l1 ok1 r1 w1 => ?_, kx.le l⟩
    refine ⟨Z1, sl, _, Ed, rfl, ok1, (so.tr l).tr l1, w1, fun Z2 y t l2 ok2 r2 w2 => ?_, (kx.le l).le l1⟩
    dsimp only at w2
    split at w2
    · rename_i ky d ek
      obtain ⟨e1, e3⟩ := w2
      obtain ⟨b, rfl, eb⟩ := kyS_ok nk (r1.tr l2) ek
      have eφ0 : (Z.own p (.dT []) (.dT [])).φ[Z.st.length]? = some p := by
        show (Z.φ ++ [p])[Z.st.length]? = some p
        rw [← ok.len, List.getElem?_append_right (Nat.le_refl _)]
        simp
      have eφ := (l1.trans l2).at_o eφ0
      obtain ⟨us0, c1, c2, c3⟩ := ok2.ct _ _ _ eφ e1
      obtain rfl : us0 = [] := by cases us0 with | nil => rfl | cons _ _ => cases c2
      refine ⟨c1, ky, b, rfl, eb, ?_⟩
      have lp := ok2.lePut (o := .dT [(ky, y)]) (c' := .dT [(ky, d)]) eφ e1 trivial trivial
      have rr : Im X.K _ _ y d := Im.tr lp.stay (show Z2.Im X.K y d from r2)
      refine k (Z2.put Z.st.length p (.dT [(ky, y)]) (.dT [(ky, d)])) (.ref p) (.o Z.st.length) (((l.trans l1).trans l2).trans lp) (ok2.put eφ e1 trivial trivial ⟨_, upd_same, rfl, .cons rr .nil⟩) ⟨p, .dT [(ky, d)], rfl, eφ, ?_, trivial⟩ e3
      show (Z2.st.set _ _)[_]? = _
      rw [List.getElem?_set_self (List.getElem?_eq_some_iff.mp e1).1]
    · exact w2.elim⟩
theorem key_reads2 {h : Heap} {k : Key} {u : Value} (a : L2.RelV (kV k) u) : Reads h u (keyD k) [] := by
  cases k with
  | inl i => obtain ⟨t, rfl⟩ := a; exact .int i t
  | inr x => obtain ⟨t, rfl⟩ := a; exact .str x t
theorem keys_reads2 {h : Heap} : ∀ {ks : List Key} {us : List Value}, Vals (ks.map kV) us → ReadsAll h us (ks.map keyD) []
  | [], _, r => by cases r; exact .nil
  | k :: ks, _, r => by
    cases r with
    | cons a b => exact .cons (as := []) (bs := []) (key_reads2 a) (keys_reads2 b)
theorem kyT_reads {pins : List (Addr × Obj)} {σ : L2.St} {H : Hp} {s : Shared} (I : Inv X pins σ H s) {b : Addr} {k : List Key} (e : H b = some (.tup (k.map kV))) : Reads s.heap (.ref b) (kyT k) [] := by
  obtain ⟨_, its, r, o, h1, h2, n, h3⟩ := (show L2.ObjOk X.prog X.w H s.heap b (.tup (k.map kV)) from I.hok b _ e)
  exact .tuple h1 h2 h3 (by simpa using keys_reads2 r)
def IsKy (H : Hp) (x : V) (d : PyData) : Prop := (∃ k : Key, x = kV k ∧ d = keyD k) ∨ ∃ (k : List Key) (b : Addr), x = .ref b ∧ H b = some (.tup (k.map kV)) ∧ d = kyT k
theorem IsKy.reads {pins : List (Addr × Obj)} {σ : L2.St} {H : Hp} {s : Shared} (I : Inv X pins σ H s) {x : V} {d : PyData} {u : Value} (h : IsKy H x d) (r : L2.RelV x u) : Reads s.heap u d [] := by
  rcases h with ⟨k, rfl, rfl⟩ | ⟨k, b, rfl, e, rfl⟩
  · exact key_reads2 r
  · cases r; exact kyT_reads I e
def DKy (H : Hp) (d : Addr) (kd : List PyData) : Prop := (∃ kvs : List (Key × V), Rd H d (.dK kvs) ∧ kd = kvs.map fun p => keyD p.1) ∨ ∃ kvs : List (List Key × V), Rd H d (.dT kvs) ∧ kd = kvs.map fun p => kyT p.1
theorem dky_ls {pins : List (Addr × Obj)} {σ : L2.St} {H : Hp} {s : Shared} (I : Inv X pins σ H s) {d : Addr} {kd : List PyData} (h : DKy H d kd) : ∃ ks vs, DLs s.heap d ks vs ∧ Paired (IsKy H) ks kd := by
  rcases h with ⟨kvs, e, rfl⟩ | ⟨kvs, e, rfl⟩
  · refine ⟨_, _, dls_K I e, ?_⟩
    clear e
    induction kvs with
    | nil => exact .nil
    | cons p l ih => exact .cons (.inl ⟨p.1, rfl, rfl⟩) ih
  · obtain ⟨bs, hb, g⟩ := dls_T I e
    refine ⟨_, _, g, ?_⟩
    clear e g
    unfold L2.IsKeys at hb
    induction hb with
    | nil => exact .nil
    | @cons p b l1 l2 hp hr ih => exact .cons (.inr ⟨p.1, b, rfl, hp, rfl⟩) ih
def rListKy : List V → Hp → VK → Prop := fun xs H Q => ∃ (d : Addr) (kd : List PyData), xs = [.ref d] ∧ DKy H d kd ∧ ∀ q ks, H q = none → Paired (IsKy H) ks kd → Q (.ref q) (upd H q (.lst ks))
theorem src_keys {d : Addr} {o : Obj} {es : Array DictEntry} {ep : Nat} (lo : (d == sysModules) = false) (hx : o.ExactDict) (hd : o.data = .dict es ep) : KdlSrc X.prog X.w "dict" d d es.size (fun i v => ∃ en : DictEntry, es[i]? = some en ∧ v = en.key) (fun h => h.get? d = some o) := L2.kdl_raw lo hx hd
theorem cr_listKy (hc : X.calm = true) : CallR X (.type "list") rListKy := by
  intro pins s σ H xs us Q I r h
  obtain ⟨d, kd, rfl, hd, q⟩ := h
  rw [Vals.ref1 r]
  obtain ⟨ks, vs, ⟨o, es, ep, g1, g2, g3, g4, r1, r2, g5⟩, pk⟩ := dky_ls I hd
  refine kdl_call (src_keys (es := es) (ep := ep) g4 g2 g3) (I.ok.hd hc) g1 g5 fun h' tk acc' c' kp e it => ?_
  have ea : acc'.toList = es.toList.map (·.key) := items_vals rfl it fun i v h => h
  have hz : ks.length ≤ sizeLine := by
    have : ks.length = es.size := by simpa using r1.length
    omega
  exact ⟨.ref s.heap.objs.size, _, I.laid (t' := tk) (o := .lst ks) kp (Nat.le_refl _) ⟨hz, acc'.toList, c', by rw [ea]; exact r1, by rw [Array.toArray_toList]; exact e⟩, rfl, q _ _ (I.hok.fresh (Nat.le_refl _)) pk⟩
def IsV (H : Hp) (u : Value) (d : PyData) : Prop := ∃ v, L2.RelV v u ∧ IsKy H v d
def rSortKy : List V → Hp → VK → Prop := fun xs H Q => ∃ (d : Addr) (kd : List PyData), xs = [.ref d] ∧ DKy H d kd ∧ AllAlike kd ∧ (Sortable kd ∨ kd = [.tuple []]) ∧ (∀ d ∈ kd, d.depth ≤ 50) ∧ ∀ q ks, H q = none → Paired (IsKy H) ks (dsort kd) → Q (.ref q) (upd H q (.lst ks))
end
end Pz
set_option maxRecDepth 100000
namespace Pz
open PySem PySem.Spec PyProof.Rows L2 TL PySem.W
variable [PenC]
section
variable {X : Cx} {E : WXs} {e : Expr} {te : DE} {K : Frag}
def dkyS (st : Sto) (s : Sl) : Option (List PyData) := match dkAny st s with
  | some kvs => some (kvs.map fun p => keyD p.1)
  | none => match dtAt st s with
    | some kvs => some (kvs.map fun p => kyT p.1)
    | none => none
theorem dkyS_ok {Z : Zs} (ok : Ok K Z) {v : V} {s : Sl} {kd : List PyData} (r : Rp K Z v s) (h : dkyS Z.st s = some kd) : ∃ a, v = .ref a ∧ DKy Z.H a kd := by
  have km : ∀ {κ : Type} [DecidableEq κ] {us : List (κ × V)} {kvs : List (κ × PyData)} (f : κ → PyData), ImKG K Z.W Z.H us kvs → (kvs.map fun p => f p.1) = us.map fun p => f p.1 := fun f q => by
    have := congrArg (List.map f) q.1
    rw [List.map_map, List.map_map] at this
    exact this.symm
  unfold dkyS at h
  split at h
  · rename_i kvs e
    cases h
    obtain ⟨a, us, rfl, q1, q2⟩ := dkAny_ok ok r e
    exact ⟨a, rfl, .inl ⟨us, q1, km keyD q2⟩⟩
  · split at h
    · rename_i kvs e
      cases h
      obtain ⟨a, us, rfl, q1, q2⟩ := dtAt_ok ok r e
      exact ⟨a, rfl, .inr ⟨us, q1, km kyT q2⟩⟩
    · cases h
theorem kys_im {Z : Zs} (ok : Ok K Z) : ∀ {ks : List V} {kd : List PyData}, Paired (IsKy Z.H) ks kd → Z.ImAll K ks kd
  | _, _, .nil => .nil
  | _, _, .cons h t => by
    refine .cons ?_ (kys_im ok t)
    rcases h with ⟨k, rfl, rfl⟩ | ⟨k, b, rfl, e, rfl⟩
    · exact im_keyD k
    · exact .tup (.inl ⟨e, ok.tb.2.2.2 _ _ e⟩) (im_keyDs k)
def fListKy : FA := fun ss st Q => match ss with
  | [s] => match dkyS st s with
    | some kd => Q (.d (.list kd)) st
    | none => False
  | _ => False
theorem cd_listKy : CallD K rListKy fListKy := by
  intro Z vs ss Qd Q ok ra w k
  unfold fListKy at w
  split at w
  · obtain ⟨v, rfl, r⟩ := rp1 ra
    split at w
    · rename_i kd e
      obtain ⟨a, rfl, q⟩ := dkyS_ok ok r e
      exact ⟨a, kd, rfl, q, fun p ks hp hk => k.newL ok (kys_im ok hk) w p hp⟩
    · exact w.elim
  · exact w.elim
def fSortKy : FA := fun ss st Q => match ss with
  | [s] => match dkyS st s with
    | some kd => AllAlike kd ∧ (Sortable kd ∨ kd = [.tuple []]) ∧ (∀ d ∈ kd, d.depth ≤ 50) ∧ Q (.d (.list (dsort kd))) st
    | none => False
  | _ => False
def rLenD : List V → Hp → VK → Prop := fun xs H Q => ∃ d, xs = [.ref d] ∧ ((∃ kvs : List (Key × V), Rd H d (.dK kvs) ∧ Q (.int kvs.length) H) ∨ ∃ kvs : List (List Key × V), H d = some (.dT kvs) ∧ Q (.int kvs.length) H)
theorem call_lenDV : CallR X (.builtin "len") rLenD := by
  intro pins s σ H xs us Q I r h
  obtain ⟨d, rfl, ⟨kvs, e, q⟩ | ⟨kvs, e, q⟩⟩ := h
  · rw [Vals.ref1 r]
    exact L2.d_len I e fun t s' I' => ⟨.int kvs.length, H, I', ⟨t, rfl⟩, q⟩
  · exact L2.call_len_dT pins s σ H [.ref d] us Q I r ⟨d, kvs, rfl, e, q⟩
def fLenD : FA := fun ss st Q => match ss with
  | [s] => match dkAny st s with
    | some kvs => Q (.d (.int kvs.length)) st
    | none => match s with
      | .o h => match st[h]? with
        | some (.dT kvs) => Q (.d (.int kvs.length)) st
        | _ => False
      | _ => False
  | _ => False
theorem cd_lenD : CallD K rLenD fLenD := by
  intro Z vs ss Qd Q ok ra w k
  unfold fLenD at w
  split at w
  · obtain ⟨v, rfl, r⟩ := rp1 ra
    split at w
    · rename_i kvs e
      obtain ⟨a, us, rfl, q1, q2⟩ := dkAny_ok ok r e
      exact ⟨a, rfl, .inl ⟨us, q1, by rw [q2.len]; exact k.now ok (.int _) w⟩⟩
    · split at w
      · split at w
        · rename_i kvs e
          obtain ⟨a, us, rfl, q1, q2, q3⟩ := r.hdT ok e
          exact ⟨a, rfl, .inr ⟨us, q2, by rw [q3.len]; exact k.now ok (.int _) w⟩⟩
        · exact w.elim
      · exact w.elim
  · exact w.elim
end
section
variable {X : Cx} {E : WXs} {e : Expr} {te : DE} {K : Frag}
mutual
theorem Im.bk {W1 W2 : Addr → Prop} {H1 H2 : Hp} {a : Addr} {o : Obj} {u : HO} (hW : ∀ b, W2 b → W1 b ∨ b = a) (hH : ∀ b, b ≠ a → H2 b = H1 b) (ha : H1 a = some (.frz o u)) : ∀ {v : V} {x : PyData}, Im K W1 H1 v x → x.hasDict = false → Im K W2 H2 v x
  | _, _, .non, _ => .non
  | _, _, .bl b, _ => .bl b
  | _, _, .int i, _ => .int i
  | _, _, .str z, _ => .str z
  | _, _, .lst (a := b) q n r, h => by
    have hne : b ≠ a := fun z => by rw [z, ha] at q; cases q
    exact .lst ((hH b hne).trans q) (fun w => (hW b w).elim n hne) (ImAll.bk hW hH ha r (by simpa [PyData.hasDict] using h))
  | _, _, .tup (a := b) q r, h => by
    refine .tup ?_ (ImAll.bk hW hH ha r (by simpa [PyData.hasDict] using h))
    rcases q with ⟨q, n⟩ | q
    · have hne : b ≠ a := fun z => by rw [z, ha] at q; cases q
      exact .inl ⟨(hH b hne).trans q, fun w => (hW b w).elim n hne⟩
    · exact .inr q
  | _, _, .dct _ _ _, h => by simp [PyData.hasDict] at h
  | _, _, .dcl _ _ _, h => by simp [PyData.hasDict] at h
  | _, _, .dcT _ _ _, h => by simp [PyData.hasDict] at h
theorem ImAll.bk {W1 W2 : Addr → Prop} {H1 H2 : Hp} {a : Addr} {o : Obj} {u : HO} (hW : ∀ b, W2 b → W1 b ∨ b = a) (hH : ∀ b, b ≠ a → H2 b = H1 b) (ha : H1 a = some (.frz o u)) : ∀ {vs : List V} {xs : List PyData}, ImAll K W1 H1 vs xs → PyData.hasDictAll xs = false → ImAll K W2 H2 vs xs
  | _, _, .nil, _ => .nil
  | _, _, .cons q r, h => by
    simp only [PyData.hasDictAll, Bool.or_eq_false_iff] at h
    exact .cons (Im.bk hW hH ha q h.1) (ImAll.bk hW hH ha r h.2)
end
def lkOf : Ct → Option PyData
  | .dK kvs => some (.dict (mkK :: kdD kvs))
  | .dT kvs => some (.dict (mkT :: ktD kvs))
  | _ => none
def wBorD (i : Nat) (te : DE) : DE := fun _ sl st Q => match nthS sl i with
  | some (.o h) => match (st[h]?).bind lkOf with
    | some x => te (fun _ _ _ _ => False) ((sl.map borS).set i (some (.d x))) [] fun s _ => match s with
      | .d x => x.hasDict = false ∧ Q (.d x) st
      | _ => False
    | _ => False
  | _ => False
theorem wBorD_ap {i : Nat} {Ed : DX} {sl : Sls} {st : Sto} {Q : DK} : wBorD i te Ed sl st Q = (match nthS sl i with
  | some (.o h) => match (st[h]?).bind lkOf with
    | some x => te (fun _ _ _ _ => False) ((sl.map borS).set i (some (.d x))) [] fun s _ => match s with
      | .d x => x.hasDict = false ∧ Q (.d x) st
      | _ => False
    | _ => False
  | _ => False) := rfl
end
end Pz
set_option maxRecDepth 100000
namespace Pz
open PySem PySem.Spec PyProof.Rows L2 TL PySem.W
variable [PenC]
section
variable {X : Cx} {E : WXs} {Z0 : Zs} {e : Expr} {es : List Expr} {t : DA} {pos p : Pos} {x : Str} {f : FD} {n k m : Nat} {N : List Str} {τ : DS}
def wDNewT : DE := fun Ed sl st Q => Q (.o st.length) (st ++ [.dT []])
theorem wDNewT_ap {Ed : DX} {sl : Sls} {st : Sto} {Q : DK} : wDNewT Ed sl st Q = Q (.o st.length) (st ++ [.dT []]) := rfl
def unD : PyData → Option Ct
  | .dict l => match unKD l with
    | some kvs => some (.dK kvs)
    | none => match unKT l with
      | some kvs => some (.dT kvs)
      | none => none
  | _ => none
theorem unD_K (kvs : KD) : unD (.dict (kdD kvs)) = some (.dK kvs) := by
  unfold unD
  dsimp only
  rw [unKD_kdD]
theorem unD_T (kvs : KTD) : unD (.dict (mkT :: ktD kvs)) = some (.dT kvs) := by
  unfold unD
  dsimp only
  rw [show unKD (mkT :: ktD kvs) = none from rfl, unKT_ktD]
def spFD (f : FD) : DSp := fun ss cs Q Ed => cs = [] ∧ f ss fun d => match unD d with
  | some c => Q (.o 0) [c]
  | none => False
def aFD (f : FD) (ss : List Sl) (st : Sto) (Q : DK) : Prop := f ss fun d => match unD d with
  | some c => Q (.o st.length) (st ++ [c])
  | none => False
def wCallFD (f : FD) (t : DA) : DE := fun Ed sl st Q => t Ed sl st fun ss st => aFD f ss st Q
theorem wCallFD_ap {f : FD} {t : DA} {Ed : DX} {sl : Sls} {st : Sto} {Q : DK} : wCallFD f t Ed sl st Q = (t Ed sl st fun ss st => aFD f ss st Q) := rfl
variable {fa : Addr} {fd : FuncData} {ps : List Str}
end
section
variable {st : Sto} {s : Sl} {h : Nat} {kvs : KD} {kts : KTD} {ds : List PyData}
theorem kyS_t : kyS st (.d (.tuple ds)) = keysL ds := rfl
theorem keysL_nil : keysL [] = some [] := rfl
theorem keysL_ci {i : Int} {r : List PyData} : keysL (.int i :: r) = (keysL r).map (Sum.inl i :: ·) := by
  rw [keysL]
  cases keysL r <;> rfl
theorem keysL_cs {z : Str} {r : List PyData} : keysL (.str z :: r) = (keysL r).map (Sum.inr z :: ·) := by
  rw [keysL]
  cases keysL r <;> rfl
theorem dtAt_L : dtAt st (.d (.dict (mkT :: ktD kts))) = some kts := unKT_ktD kts
theorem dkAny_o : dkAny st (.o h) = (match st[h]? with
  | some (.dK kvs) => some kvs
  | _ => none) := rfl
theorem dkAny_D : dkAny st (.d (.dict (kdD kvs))) = some kvs := unKD_kdD kvs
theorem dkAny_L : dkAny st (.d (.dict (mkK :: kdD kvs))) = some kvs := unKD_loc kvs
theorem dvAt_o : dvAt st (.o h) = (match st[h]? with
  | some (.dK kvs) => some (kvs.map (·.2))
  | some (.dT kvs) => some (kvs.map (·.2))
  | _ => none) := by
  unfold dvAt
  rw [dkAny_o, dtAt_o]
  cases st[h]? with
  | none => rfl
  | some c => cases c <;> rfl
theorem dvAt_D : dvAt st (.d (.dict (kdD kvs))) = some (kvs.map (·.2)) := by unfold dvAt; rw [dkAny_D]
theorem dvAt_L : dvAt st (.d (.dict (mkK :: kdD kvs))) = some (kvs.map (·.2)) := by unfold dvAt; rw [dkAny_L]
theorem dvAt_T : dvAt st (.d (.dict (mkT :: ktD kts))) = some (kts.map (·.2)) := by unfold dvAt; rw [show dkAny st (.d (.dict (mkT :: ktD kts))) = none from rfl, dtAt_L]
theorem dkyS_o : dkyS st (.o h) = (match st[h]? with
  | some (.dK kvs) => some (kvs.map fun p => keyD p.1)
  | some (.dT kvs) => some (kvs.map fun p => kyT p.1)
  | _ => none) := by
  unfold dkyS
  rw [dkAny_o, dtAt_o]
  cases st[h]? with
  | none => rfl
  | some c => cases c <;> rfl
theorem dkyS_D : dkyS st (.d (.dict (kdD kvs))) = some (kvs.map fun p => keyD p.1) := by unfold dkyS; rw [dkAny_D]
theorem dkyS_L : dkyS st (.d (.dict (mkK :: kdD kvs))) = some (kvs.map fun p => keyD p.1) := by unfold dkyS; rw [dkAny_L]
theorem dkyS_T : dkyS st (.d (.dict (mkT :: ktD kts))) = some (kts.map fun p => kyT p.1) := by unfold dkyS; rw [show dkAny st (.d (.dict (mkT :: ktD kts))) = none from rfl, dtAt_L]
theorem dinS_o : dinS st s (.o h) = (match st[h]? with
  | some (.dK kvs) => (keyS st s).map fun k => (valG kvs k).isSome
  | some (.dT kvs) => (kyS st s).map fun k => (valG kvs k).isSome
  | _ => none) := by
  unfold dinS
  rw [dkAny_o, dtAt_o]
  cases st[h]? with
  | none => rfl
  | some c => cases c <;> rfl
theorem dinS_D : dinS st s (.d (.dict (kdD kvs))) = (keyS st s).map fun k => (valG kvs k).isSome := by unfold dinS; rw [dkAny_D]
theorem dinS_L : dinS st s (.d (.dict (mkK :: kdD kvs))) = (keyS st s).map fun k => (valG kvs k).isSome := by unfold dinS; rw [dkAny_L]
theorem dinS_T : dinS st s (.d (.dict (mkT :: ktD kts))) = (kyS st s).map fun k => (valG kts k).isSome := by unfold dinS; rw [show dkAny st (.d (.dict (mkT :: ktD kts))) = none from rfl, dtAt_L]
theorem fLenD_o {Q : DK} : fLenD [.o h] st Q = (match st[h]? with
  | some (.dK kvs) => Q (.d (.int kvs.length)) st
  | some (.dT kvs) => Q (.d (.int kvs.length)) st
  | _ => False) := by
  unfold fLenD
  dsimp only
  rw [dkAny_o]
  cases st[h]? with
  | none => rfl
  | some c => cases c <;> rfl
theorem ret1_dT {C : KTD} {st : Sto} {Q : DK} : Ret 0 (.o 0) (.dT C :: st) Q = Q (.o 0) [.dT C] := by simp [Ret, Ct.live, Cl]
theorem cl_dt {n : Nat} {kvs : KTD} : Cl n (.dT kvs) = True := rfl
theorem lkOf_K : lkOf (.dK kvs) = some (.dict (mkK :: kdD kvs)) := rfl
theorem lkOf_T : lkOf (.dT kts) = some (.dict (mkT :: ktD kts)) := rfl
theorem xor_f {b : Bool} : (b != false) = b := by cases b <;> rfl
theorem xor_t {b : Bool} : (b != true) = !b := by cases b <;> rfl
theorem hasD_int {i : Int} : (PyData.int i).hasDict = false := rfl
end
end Pz
set_option maxRecDepth 100000
namespace Pz
open PySem PySem.Spec PyProof.Rows L2 TL PySem.W
variable [PenC]
def oLtS (x y : Sl) (st : Sto) (Q : DK) : Prop := match vw st x, vw st y with
  | some (.str a), some (.str b) => Q (.d (.bool (decide (tl a < tl b)))) st
  | _, _ => False
def oLtT (x y : Sl) (st : Sto) (Q : DK) : Prop := match vw st x, vw st y with
  | some (.tuple a), some (.tuple b) => match asInts a, asInts b with
    | some ns, some ms => Q (.d (.bool (HT.lexLt ns ms))) st
    | _, _ => False
  | _, _ => False
end Pz
set_option maxRecDepth 100000
namespace Pz
open PySem PySem.Spec PyProof.Rows L2 TL PySem.W
variable [PenC]
section
variable {X : Cx} {E : WXs}
theorem itd_kwt {K : Frag} {Z1 : Zs} {a : Addr} {xs : List V} {ds : List PyData} (kw : KwT K a xs) (r : ∀ (W : Addr → Prop) (H : Hp), ImAll K W H xs ds) : ItD K (Itt K a) Z1 ds where
  go := fun Z k ok i hi => ⟨xs, xs[i]'(by rw [(r Z.W Z.H).length]; exact hi), .inr kw, List.getElem?_eq_getElem _⟩
  stop := fun Z k ok => ⟨xs, .inr kw, by rw [(r Z.W Z.H).length]; exact Nat.le_refl _⟩
  yld := fun Z k ok i v H' d e y => by
    obtain ⟨rfl, y⟩ := y
    obtain ⟨v', e', r'⟩ := (r Z.W Z.H).get' e
    have := (y xs (.inr kw)).symm.trans e'
    cases this
    exact ⟨Z, .refl ok, ok, rfl, rfl, r'⟩
def wItC (ds : List PyData) : DI := fun Ed sl st Q => Q ds st
theorem wItC_ap {ds : List PyData} {Ed : DX} {sl : Sls} {st : Sto} {Q : List PyData → Sto → Prop} : wItC ds Ed sl st Q = Q ds st := rfl
theorem di_gtup {tg : Expr} {x : Str} {pos : Pos} {vs : List V} {ds : List PyData} (hg : Gl X x) (h : ∃ a, X.mg x = some (.ref a) ∧ KwT X.K a vs) (r : ∀ (W : Addr → Prop) (H : Hp), ImAll X.K W H vs ds) (hd : (x == "__debug__") = false := by decide) : DIt X E tg (.Name x pos) (wItC ds) := by
  obtain ⟨a, hm, kw⟩ := h
  refine ⟨⟨fun pins s σ H R I ⟨Z, sl, Rd, Ed, h, ok, so, w, k, kx⟩ => thn ((C8.pe_gc (v := .ref a) hg ⟨_, hm, rfl⟩ hd).run pins s σ H (fun v H1 => v = .ref a ∧ R (Itt X.K a) H1) I ?_) fun v s1 ⟨y, H1, I1, r1, q1⟩ => ?_⟩⟩
  · subst h
    exact ⟨rfl, k Z _ ds (.refl ok) ok (itd_kwt kw r) w⟩
  · obtain ⟨rfl, q⟩ := q1
    cases r1
    exact it_tup (iter := .Name x pos) I1 (.inr kw) q
end
end Pz
set_option maxRecDepth 100000
namespace Pz
open PySem PySem.Spec PyProof.Rows L2 TL
variable [PenC]
section
variable {X : Cx} {E : WXs} {k n m : Nat} {fa : Addr} {fd : FuncData} {ps ks : List Str} {f : FDX} {x : Str} {p pos : Pos} {e : Expr} {es : List Expr} {t tk : DA} {kws : List Keyword} {gS : List Sl → List Sl → List Sl}
def wCallXE (n m : Nat) (f : FDX) (g : List Sl → List Sl → List Sl) (t tk : DA) : DE := fun Ed sl st Q => t Ed sl st fun ss st => tk Ed sl st fun zs st => ss.length = n ∧ zs.length = m ∧ f (g ss zs) (fun d => Q (.d d) st) fun c fs => Ed c fs sl st
theorem wCallXE_ap {g : List Sl → List Sl → List Sl} {Ed : DX} {sl : Sls} {st : Sto} {Q : DK} : wCallXE n m f g t tk Ed sl st Q = (t Ed sl st fun ss st => tk Ed sl st fun zs st => ss.length = n ∧ zs.length = m ∧ f (g ss zs) (fun d => Q (.d d) st) fun c fs => Ed c fs sl st) := rfl
theorem callXE_at (tkx : Takes X E) (ok : FOkX f m) (F : FnD X.prog X.w X.K X.mg X.base (L2.CX X.prog X.w) k fa fd ps (spX f)) (hA : X.A.guards = some []) (hr : Room k X.A) (hn : m = ps.length) (hb : KwE X.K fd ps n ks gS)
    {Z Z2 : Zs} {vs zs : List V} {ss zz : List Sl} {Qd : DK} {Ed : DX} {sl : Sls} {Q : VK} {pins : List (Addr × Obj)} {σ : L2.St} {s : Shared} {us ws : List Value} (I : L2.Inv X pins σ Z2.H s) (rv : Vals vs us) (rz : Vals zs ws) (ok2 : Ok X.K Z2) (r1 : RpAll X.K Z2 vs ss) (r2 : RpAll X.K Z2 zs zz)
    (e1 : ss.length = n) (e2 : zz.length = ks.length) (w : f (gS ss zz) (fun d => Qd (.d d) Z2.st) fun c fs => Ed c fs sl Z2.st) (kq : KOk X.K Z2 Qd Q) (so : SlOk X.K Z2 σ sl) (kx : KXOk X.K Z2 Ed E) : wpAny (model X.prog X.w) X.A (call (.ref fa) us (ks.zip ws)) (EP X pins σ Q) X.xe s := by
  obtain ⟨g, gV, h1, h2, h3⟩ := hb.ex
  have l1 : vs.length = n := r1.length.trans e1
  have l2 : zs.length = ks.length := r2.length.trans e2
  have w3 : locCall (spX f) (gS ss zz) Z2.st Qd (fun c fs st => Ed c fs sl st) := locX ok w
  have sp := loc_sp (Q := Q) (E := WE E σ) ok2 (h3 e1 e2 r1 r2) (locCall_len w3 fun ss cs Q Ed h => hn ▸ lX ok ss cs Q Ed h) w3 kq (kxf_of so kx)
  exact runGS (E := WE E) F hA hr (h1 s us ws I.kIn (rv.length.symm.trans l1) (rz.length.symm.trans l2)) (passAt tkx σ) I (h2 l1 l2 rv rz) sp
theorem de_callXEK (tkx : Takes X E) (ok : FOkX f m) (F : FnD X.prog X.w X.K X.mg X.base (L2.CX X.prog X.w) k fa fd ps (spX f)) (hA : X.A.guards = some []) (hr : Room k X.A) (hn : m = ps.length) (hg : Gl X x) (hm : X.mg x = some (.ref fa)) (hk : PySem.W.keepIn X.K (.ref fa) = true) (hb : KwE X.K fd ps n ks gS)
    (ha : DAs X E (e :: es) t) (hkw : DKs X E kws tk) (hall : (backToKw pos (keywordEach kws X.env)).all (·.1.isSome) = true := by rfl) (hks : (backToKw pos (keywordEach kws X.env)).filterMap (·.1) = ks := by rfl) (hdb : (x == ("__debug__" : Str)) = false := by decide)
    (he : starEach (e :: es) X.env = (false, eval e X.env) :: starEach es X.env := by rfl) (hpl : ((backTo pos (starEach (e :: es) X.env)).any (·.1) || (backToKw pos (keywordEach kws X.env)).any (·.1.isNone)) = false := by rfl) :
    DEx X E (.Call (.Name x p) (e :: es) kws pos) (wCallXE n ks.length f gS t tk) := by
  constructor
  constructor
  intro pins s σ H Q I ⟨Z, sl, Qd, Ed, h, ok', so, w, kq, kx⟩
  subst h
  refine wpAny_Call_Name_kw (ld_glob I hg hm (PySem.W.callWith_KW (h₀ := X.base) I.ok.mod.kin hk hall (thn (ha.run.run pos pins s σ Z.H (fun vs H1 => ∃ (Z1' : Zs) (ss' : List Sl), Z1'.H = H1 ∧ Le Z Z1' ∧ Ok X.K Z1' ∧ RpAll X.K Z1' vs ss' ∧ tk Ed sl Z1'.st fun zs st => ss'.length = n ∧ zs.length = ks.length ∧ f (gS ss' zs) (fun d => Qd (.d d) st) fun c fs => Ed c fs sl st) I ⟨Z, sl, _, Ed, rfl, ok', so, w, fun Z1 vs ss l1 ok1 r1 w1 => ⟨Z1, ss, rfl, l1, ok1, r1, w1⟩, kx⟩) ?_) hpl he) hdb)
  rintro us s1 ⟨vs, H1, I1, r, Z1, ss, eH, l1, ok1, r1, w1⟩
  subst eH
  refine thn (hkw.run.run pos pins s1 σ Z1.H (fun zs H2 => ∃ (Z2' : Zs) (zz' : List Sl), Z2'.H = H2 ∧ Le Z1 Z2' ∧ Ok X.K Z2' ∧ RpAll X.K Z2' zs zz' ∧ ss.length = n ∧ zz'.length = ks.length ∧ f (gS ss zz') (fun d => Qd (.d d) Z2'.st) fun c fs => Ed c fs sl Z2'.st) I1 ⟨Z1, sl, _, Ed, rfl, ok1, so.tr l1, w1, fun Z2 zs zz l2 ok2 r2 w2 => ⟨Z2, zz, rfl, l2, ok2, r2, w2⟩, kx.le l1⟩) ?_
  rintro ws s2 ⟨zs, H2, I2, rz, Z2, zz, eH2, l2, ok2, r2, e1, e2, w2⟩
  subst eH2
  rw [hks]
  exact ⟨I2.kIn, callXE_at (Z := Z) tkx ok F hA hr hn hb I2 r rz ok2 (RpAll.tr l2 r1) r2 e1 e2 w2 (kq.le (l1.trans l2)) ((so.tr l1).tr l2) (kx.le (l1.trans l2))⟩
end
end Pz
set_option maxRecDepth 100000
namespace Pz
variable [PenC]
open PySem PySem.Spec PyProof.Rows L2 TL
def colL (b : Int) : List Nat → Int → Int
  | [], f => f
  | c :: cs, f => colL b cs (if c = 32 then f + 1 else (f / b + 1) * b)
theorem tab_step {b : Int} (h0 : 0 < b) (f : Int) : (f / b + 1) * b = f - f % b + b := by
  have := Int.mul_ediv_add_emod f b
  rw [Int.add_mul, Int.one_mul, Int.mul_comm]; omega
theorem colL_le {b : Int} (h0 : 0 < b) (h1 : b ≤ 10 ^ 9) : ∀ (l : List Nat) (f : Int), 0 ≤ f → 0 ≤ colL b l f ∧ colL b l f ≤ f + 10 ^ 9 * l.length
  | [], f, h => ⟨h, by simp [colL]⟩
  | c :: cs, f, h => by
    have e := tab_step h0 f
    have := Int.emod_nonneg f (by omega : b ≠ 0)
    have := Int.emod_lt_of_pos f h0
    have q : 0 ≤ (if c = 32 then f + 1 else (f / b + 1) * b) ∧ (if c = 32 then f + 1 else (f / b + 1) * b) ≤ f + 10 ^ 9 := by
      split
      · omega
      · rw [e]; omega
    have := colL_le h0 h1 cs _ q.1
    simp only [colL, List.length_cons]
    omega
def rtA : List Nat → List Nat → Nat → List Nat × Nat
  | [], acc, t => (acc, t)
  | c :: l, acc, t => if c = 9 then rtA l (acc ++ [t]) 0 else rtA l acc (t + 1)
def runsL (l : List Nat) : List Nat := (rtA l [] 0).1
def tailL (l : List Nat) : Nat := (rtA l [] 0).2
theorem rtA_acc : ∀ (l acc : List Nat) (t : Nat), rtA l acc t = (acc ++ (rtA l [] t).1, (rtA l [] t).2)
  | [], acc, t => by simp [rtA]
  | c :: l, acc, t => by
    unfold rtA
    split
    · rw [rtA_acc l (acc ++ [t]), rtA_acc l ([] ++ [t])]; simp
    · rw [rtA_acc l acc]
theorem spl_rt : ∀ (l acc : List Nat), (TL.spl [9] 0 acc l).map List.length = (rtA l [] acc.length).1 ++ [(rtA l [] acc.length).2]
  | [], acc => by simp [TL.spl, rtA]
  | c :: l, acc => by
    by_cases h : c = 9
    · subst h
      have e : TL.spl [9] 0 acc (9 :: l) = acc :: TL.spl [9] 0 [] l := by simp [TL.spl, TL.pre]
      rw [e, List.map_cons, spl_rt l []]
      rw [show rtA (9 :: l) [] acc.length = rtA l ([] ++ [acc.length]) 0 from rfl, rtA_acc l ([] ++ [acc.length])]
      simp
    · have e : TL.spl [9] 0 acc (c :: l) = TL.spl [9] 0 (acc ++ [c]) l := by simp [TL.spl, TL.pre, h]
      rw [e, spl_rt l]
      rw [show rtA (c :: l) [] acc.length = if c = 9 then rtA l ([] ++ [acc.length]) 0 else rtA l [] (acc.length + 1) from rfl, if_neg h]
      simp
theorem split_tab (z : Str) : ((Txt.split z (Str.ofString "\t")).map fun x => x.length) = runsL (tl z) ++ [tailL (tl z)] := by
  have e1 : Str.ofString "\t" = SX.S [9] := by decide +kernel
  rw [e1, ← SX.S_tl z, SX.split_S (by decide) (by decide), List.map_map]
  have := spl_rt z.cps.toList []
  refine (congrArg (fun f => List.map f (spl [9] 0 [] z.cps.toList)) (funext fun x => SX.S_len x)).trans ?_
  exact this
def indP (rs : List Nat) : List Nat := (rs.map fun r => List.replicate r 32 ++ [9]).flatten
def indL (rs : List Nat) (t : Nat) : List Nat := indP rs ++ List.replicate t 32
theorem indP_cons {r : Nat} {rs : List Nat} : indP (r :: rs) = List.replicate r 32 ++ 9 :: indP rs := by simp [indP]
theorem indP_app {a b : List Nat} : indP (a ++ b) = indP a ++ indP b := by simp [indP]
theorem rt_sp : ∀ (n : Nat) (l : List Nat) (t : Nat), rtA (List.replicate n 32 ++ l) [] t = rtA l [] (n + t)
  | 0, l, t => by simp
  | n + 1, l, t => by
    rw [List.replicate_succ, List.cons_append, rtA, if_neg (by decide), rt_sp n]
    congr 1; omega
theorem rt_ind (t : Nat) : ∀ rs : List Nat, rtA (indL rs t) [] 0 = (rs, t)
  | [] => by have := rt_sp t [] 0; rw [List.append_nil] at this; simpa [indL, indP, rtA] using this
  | r :: rs => by
    have e : indL (r :: rs) t = List.replicate r 32 ++ 9 :: indL rs t := by simp [indL, indP_cons]
    rw [e, rt_sp, show rtA (9 :: indL rs t) [] (r + 0) = rtA (indL rs t) ([] ++ [r]) 0 from rfl, rtA_acc, rt_ind t rs]
    rfl
theorem runs_ind {rs : List Nat} {t : Nat} : runsL (indL rs t) = rs := by rw [runsL, rt_ind]
theorem tail_ind {rs : List Nat} {t : Nat} : tailL (indL rs t) = t := by rw [tailL, rt_ind]
def blankL (l : List Nat) : Prop := ∀ c ∈ l, c = 32 ∨ c = 9
theorem blank_ind {rs : List Nat} {t : Nat} : blankL (indL rs t) := by
  intro c m
  simp only [indL, indP, List.mem_append, List.mem_flatten, List.mem_map, List.mem_replicate] at m
  rcases m with ⟨l, ⟨r, _, rfl⟩, m⟩ | m
  · simp only [List.mem_append, List.mem_replicate, List.mem_singleton] at m
    rcases m with m | m
    · exact .inl m.2
    · exact .inr m
  · exact .inl m.2
theorem rt_bound : ∀ (l acc : List Nat) (t : Nat), (rtA l acc t).1.sum + (rtA l acc t).1.length + (rtA l acc t).2 = acc.sum + acc.length + t + l.length
  | [], acc, t => by simp [rtA]
  | c :: l, acc, t => by
    unfold rtA
    split
    · rw [rt_bound l (acc ++ [t]) 0]; simp; omega
    · rw [rt_bound l acc (t + 1)]; simp; omega
theorem rt_len (l : List Nat) : (runsL l).sum + (runsL l).length + tailL l = l.length := by
  have := rt_bound l [] 0
  simpa [runsL, tailL] using this
theorem mem_sum : ∀ {l : List Nat} {x : Nat}, x ∈ l → x ≤ l.sum
  | y :: l, x, m => by
    rw [List.sum_cons]
    rcases List.mem_cons.mp m with rfl | m
    · omega
    · have := mem_sum m; omega
theorem split_parts (z : Str) : ∃ xs y, Txt.split z (Str.ofString "\t") = xs ++ [y] ∧ (xs.map fun x => x.length) = runsL (tl z) ∧ y.length = tailL (tl z) := by
  have h := split_tab z
  generalize Txt.split z (Str.ofString "\t") = w at *
  rcases List.eq_nil_or_concat w with rfl | ⟨xs, y, rfl⟩
  · simp at h
  · refine ⟨xs, y, by simp, ?_⟩
    simp only [List.concat_eq_append, List.map_append, List.map_cons, List.map_nil] at h
    have := List.append_inj' h rfl
    exact ⟨this.1, by simpa using this.2⟩
abbrev Run (x : Int) : Prop := 0 ≤ x ∧ x ≤ 60
theorem strOk_blank {z : Str} (h : blankL (tl z)) : PyData.strOk z = true := by
  rw [strOk_iff]
  intro c m
  rcases h c m with rfl | rfl <;> decide
def nsort (l : List Nat) : List Nat := (isort (l.map fun n : Nat => (n : Int))).map Int.toNat
theorem nsort_perm (l : List Nat) : (nsort l).Perm l := by
  have := (isort_perm (l.map fun n : Nat => (n : Int))).map Int.toNat
  rw [List.map_map] at this
  have e : (l.map (Int.toNat ∘ fun n : Nat => (n : Int))) = l := by
    conv => rhs; rw [← List.map_id l]
    exact List.map_congr_left fun a _ => by simp
  rw [e] at this
  exact this
theorem ind_of : ∀ (l acc : List Nat) (t : Nat), blankL l → indL (rtA l acc t).1 (rtA l acc t).2 = indP acc ++ List.replicate t 32 ++ l
  | [], acc, t, _ => by simp [rtA, indL]
  | c :: l, acc, t, h => by
    have h2 : blankL l := fun x m => h x (List.mem_cons_of_mem _ m)
    unfold rtA
    split
    · rename_i e
      rw [ind_of l _ 0 h2, indP_app, e]
      simp [indP]
    · rename_i e
      have : c = 32 := (h c List.mem_cons_self).resolve_right e
      rw [ind_of l _ _ h2, this, List.replicate_succ']
      simp
theorem ind_self {l : List Nat} (h : blankL l) : indL (runsL l) (tailL l) = l := by
  have := ind_of l [] 0 h
  simpa [runsL, tailL, indP] using this
def colR (w : Int) : List Nat → Int → Int
  | [], f => f
  | r :: rs, f => colR w rs (((f + r) / w + 1) * w)
theorem colL_sp (b : Int) : ∀ (n : Nat) (l : List Nat) (f : Int), colL b (List.replicate n 32 ++ l) f = colL b l (f + n)
  | 0, l, f => by simp
  | n + 1, l, f => by
    rw [List.replicate_succ, List.cons_append, colL, if_pos rfl, colL_sp b n]
    congr 1; omega
theorem colL_ind (b : Int) (t : Nat) : ∀ (rs : List Nat) (f : Int), colL b (indL rs t) f = colR b rs f + t
  | [], f => by have := colL_sp b t [] f; rw [List.append_nil] at this; simpa [indL, indP, colR, colL] using this
  | r :: rs, f => by
    have e : indL (r :: rs) t = List.replicate r 32 ++ 9 :: indL rs t := by simp [indL, indP_cons]
    rw [e, colL_sp, colL, if_neg (by decide), colL_ind b t rs]
    rfl
def divs (w : Nat) (rs : List Nat) : Nat := (rs.map fun r => r / w).sum
theorem colR_eq {w : Nat} (hw : 0 < w) : ∀ (rs : List Nat) (q : Nat), colR w rs (w * q : Nat) = (w * (q + rs.length + divs w rs) : Nat)
  | [], q => by simp [colR, divs]
  | r :: rs, q => by
    have e : (((w * q : Nat) : Int) + r) / w = ((q + r / w : Nat) : Int) := by
      rw [← Int.natCast_add, ← Int.natCast_ediv]
      congr 1
      rw [Nat.add_comm, Nat.add_mul_div_left _ _ hw, Nat.add_comm]
    rw [colR, e]
    have e2 : (((q + r / w : Nat) : Int) + 1) * w = ((w * (q + r / w + 1) : Nat) : Int) := by
      rw [Nat.mul_comm]; simp
    rw [e2, colR_eq hw rs]
    simp only [divs, List.map_cons, List.sum_cons, List.length_cons]
    congr 2; omega
theorem colR_0 {w : Nat} (hw : 0 < w) (rs : List Nat) : colR w rs 0 = (w * (rs.length + divs w rs) : Nat) := by
  have := colR_eq hw rs 0
  simpa using this
theorem divs_perm {w : Nat} {a b : List Nat} (h : a.Perm b) : divs w a = divs w b := (h.map _).sum_nat
theorem divs_le (w : Nat) : ∀ rs : List Nat, divs w rs ≤ rs.sum
  | [] => by simp [divs]
  | r :: rs => by
    have := divs_le w rs
    have h := Nat.div_le_self r w
    simp only [divs, List.map_cons, List.sum_cons] at *
    omega
end Pz
set_option maxRecDepth 100000
namespace Pz
variable [PenC]
def colN (w : Nat) (rs : List Nat) (t : Nat) : Nat := w * (rs.length + divs w rs) + t
theorem colR_N {w : Nat} (hw : 0 < w) (rs : List Nat) (t : Nat) : colR w rs 0 + (t : Nat) = (colN w rs t : Nat) := by
  rw [colR_0 hw, colN]
  simp
theorem colN_perm {w : Nat} {a b : List Nat} {t : Nat} (h : a.Perm b) : colN w a t = colN w b t := by rw [colN, colN, h.length_eq, divs_perm h]
open PySem PySem.Spec PyProof.Rows L2 TL
def gLen (d : PyData) : PyData := match d with
  | .str x => .int x.length
  | _ => .none
def unlike (f g : Int → Int) (d : PyData) : Option PyData := match d with
  | .int w => if f w = g w then none else some (.int 1)
  | _ => none
theorem len_st2 : (Str.ofString " \t").length = 2 := by rw [len_lit]; decide +kernel
end Pz
set_option maxRecDepth 100000
namespace Pz
variable [PenC]
open PySem PySem.Spec PyProof.Rows L2 TL
def muT : List Int := [0, 1, (-1), (-1), 0, (-1), 1, (-1), 0, 0, 1, (-1), 0, (-1), 1, 1, 0, (-1), 0, (-1), 0, 1, 1, (-1), 0, 0, 1, 0, 0, (-1), (-1), (-1), 0, 1, 1, 1, 0, (-1), 1, 1, 0, (-1), (-1), (-1), 0, 0, 1, (-1), 0, 0, 0, 1, 0, (-1), 0, 1, 0, 1, 1, (-1), 0, (-1), 1, 0, 0, 1, (-1), (-1), 0, 1, (-1), (-1), 0, (-1), 1, 0, 0, 1, (-1), (-1), 0, 0, 1, (-1), 0, 1, 1, 1, 0, (-1), 0, 1, 0, 1, 1, 1, 0, (-1), 0, 0, 0, (-1), (-1), (-1), 0, (-1), 1, (-1), 0, (-1), (-1), 1, 0, (-1), (-1), 1, 0, 0, 1, 1, 0, 0, 1, 1, 0, 0, 0, (-1), 0, 1, (-1), (-1), 0, 1, 1, 0, 0, (-1), (-1), (-1), 0, 1, 1, 1, 0, 1, 1, 0, 0, (-1), 0, (-1), 0, 0, (-1), 1, 0, (-1), 1, 1, 0, 1, 0, (-1), 0, (-1), 1, (-1), 0, 0, (-1), 0, 0, (-1), (-1), 0, 0, 1, 1, (-1), 0, (-1), (-1), 1, 0, 1, (-1), 1, 0, 0, (-1), (-1), 0, (-1), 1, (-1), 0, (-1), 0, (-1), 0]
def mu (q : Nat) : Int := muT.getD q 0
def gA (w a : Nat) : Int := if w % a = 0 then mu (w / a) else 0
def gL (w : Nat) : Nat → Nat → List Int
  | _, 0 => []
  | a, n + 1 => gA w a :: gL w (a + 1) n
def onesA (w : Nat) : Nat → Nat → List Nat
  | _, 0 => []
  | a, n + 1 => List.replicate (max 0 (gA w a - gA w (a + 1))).toNat a ++ onesA w (a + 1) n
def twosA (w : Nat) : Nat → Nat → List Nat
  | _, 0 => []
  | a, n + 1 => List.replicate (max 0 (gA w (a + 1) - gA w a)).toNat a ++ twosA w (a + 1) n
def apM (w : Nat) : Nat := max (onesA w 1 w).length (twosA w 1 w).length
def apO (w : Nat) : List Nat := List.replicate (apM w - (onesA w 1 w).length) 0 ++ onesA w 1 w
def apT (w : Nat) : List Nat := List.replicate (apM w - (twosA w 1 w).length) 0 ++ twosA w 1 w
abbrev mL (W k : Nat) : List Int := List.replicate (W - k + 1) 0 ++ gL W (W - k + 1) (k + 1)
end Pz
set_option maxRecDepth 100000
namespace Pz
variable [PenC]
open PySem PySem.Spec PyProof.Rows L2 TL
abbrev nI (l : List Nat) : List PyData := l.map fun n => PyData.int (n : Nat)
theorem sign32 : PyData.eqv (.str ⟨#[32]⟩) (.str (Str.ofString " ")) = true := by decide +kernel
theorem sign9 : PyData.eqv (.str ⟨#[9]⟩) (.str (Str.ofString " ")) = false := by decide +kernel
theorem colL_rt {z : Str} (h : blankL (tl z)) (w : Int) : colL w (tl z) 0 = colR w (runsL (tl z)) 0 + (tailL (tl z) : Nat) := by
  conv => lhs; rw [← ind_self h]
  exact colL_ind w _ _ 0
def apChk (w : Nat) : Bool :=
  let o := onesA w 1 w
  let t := twosA w 1 w
  (List.range w).all (fun v => v == 0 || (o.foldl (fun n a => n + a / v) 0 == t.foldl (fun n a => n + a / v) 0)) && (o.foldl (fun n a => n + a / w) 0 != t.foldl (fun n a => n + a / w) 0)
def IsFd (a : List Nat) (r : Nat) (b : List Nat) (s : Nat) (d : PyData) : Prop := (d = .none ∧ nsort a = nsort b ∧ r = s) ∨ ∃ w : Nat, d = .int w ∧ 1 ≤ w ∧ w ≤ 1001 ∧ colN w a r ≠ colN w b s ∧ ∀ v, 1 ≤ v → v < w → colN v a r = colN v b s
theorem IsFd.symm {a b : List Nat} {r s : Nat} {d : PyData} (h : IsFd a r b s d) : IsFd b s a r d := by
  rcases h with ⟨h, h1, h2⟩ | ⟨w, h, h1, h2, h3, h4⟩
  · exact .inl ⟨h, h1.symm, h2.symm⟩
  · exact .inr ⟨w, h, h1, h2, fun e => h3 e.symm, fun v x y => (h4 v x y).symm⟩
theorem same_cols {a b : List Nat} {r s w : Nat} (h1 : nsort a = nsort b) (h2 : r = s) : colN w a r = colN w b s := by
  rw [← colN_perm (nsort_perm a), ← colN_perm (nsort_perm b), h1, h2]
theorem IsFd.uniq {a b : List Nat} {r s : Nat} {d e : PyData} (h : IsFd a r b s d) (k : IsFd a r b s e) : d = e := by
  rcases h with ⟨h, h1, h2⟩ | ⟨w, h, h1, h2, h3, h4⟩
  · rcases k with ⟨k, _⟩ | ⟨w, _, _, _, k3, _⟩
    · rw [h, k]
    · exact absurd (same_cols h1 h2) k3
  · rcases k with ⟨k, k1, k2⟩ | ⟨w', k, k1, k2, k3, k4⟩
    · exact absurd (same_cols k1 k2) h3
    · rw [h, k]
      rcases Nat.lt_trichotomy w w' with x | x | x
      · exact absurd (k4 w h1 x) h3
      · rw [x]
      · exact absurd (h4 w' k1 x) k3
def unlikeW (f g : Int → Int) (d : PyData) : Option PyData := match d with
  | .int w => if f w = g w then none else some (.int w)
  | _ => none
theorem IsFd.rep {a b : List Nat} {r s : Nat} {d : PyData} (h : IsFd a r b s d) : RepOk (.list [d, d]) := by
  rcases h with ⟨rfl, _⟩ | ⟨w, rfl, h1, h2, _⟩
  · exact ((RepL.cons rp_n (RepL.cons rp_n RepL.nil)).lst).r (by decide) (by decide)
  · exact ((RepL.cons (rp_i (small100 (by omega) (by omega))) (RepL.cons (rp_i (small100 (by omega) (by omega))) RepL.nil)).lst).r (by decide) (by decide)
theorem IsFd.at {a b : List Nat} {r s w : Nat} {d : PyData} (h : IsFd a r b s d) (h1 : 1 ≤ w) (h3 : colN w a r ≠ colN w b s) (h4 : ∀ v, 1 ≤ v → v < w → colN v a r = colN v b s) (h2 : w ≤ 1001) : d = .int w :=
  h.uniq (.inr ⟨w, rfl, h1, h2, h3, h4⟩)
end Pz
set_option maxRecDepth 100000
namespace Pz
open PySem PySem.Spec PyProof.Rows L2 TL
variable [PenC]
def colZ (w : Int) (z : Str) : Int := colR w (runsL (tl z)) 0 + (tailL (tl z) : Nat)
theorem tl_cutS {z : Str} {lo hi : Option Int} : tl (cutS z lo hi) = cutD (tl z) lo hi := by
  unfold cutS cutD
  rw [← len_tl]
theorem blank_cut {l : List Nat} {lo hi : Option Int} (h : blankL l) : blankL (cutD l lo hi) := fun c m => h c (cut_mem m)
theorem colZ_L {z : Str} (h : blankL (tl z)) (w : Int) : colZ w z = colL w (tl z) 0 := (colL_rt h w).symm
theorem colZ_nn {z : Str} (h : blankL (tl z)) {w : Int} (h0 : 0 < w) (h1 : w ≤ 10 ^ 9) : 0 ≤ colZ w z ∧ colZ w z ≤ 10 ^ 9 * z.length := by
  rw [colZ_L h, Pz.len_tl]
  have := colL_le h0 h1 (tl z) 0 (Int.le_refl _)
  simpa using this
theorem col_short {z : Str} {w : Int} (hw : 0 < w) : colZ w z / w + colZ w z % w ≤ z.length ∧ 0 ≤ colZ w z / w ∧ 0 ≤ colZ w z % w ∧ colZ w z % w < w := by
  obtain ⟨n, rfl⟩ := Int.eq_ofNat_of_zero_le (by omega : 0 ≤ w)
  have hn : 0 < n := by omega
  have e : colZ n z = ((colN n (runsL (tl z)) (tailL (tl z)) : Nat) : Int) := colR_N hn _ _
  rw [e]
  have h1 := rt_len (tl z)
  rw [← Pz.len_tl] at h1
  have h2 := divs_le n (runsL (tl z))
  have hq : colN n (runsL (tl z)) (tailL (tl z)) / n = (runsL (tl z)).length + divs n (runsL (tl z)) + tailL (tl z) / n := by
    unfold colN
    rw [Nat.add_comm, Nat.add_mul_div_left _ _ hn]; omega
  have hr : colN n (runsL (tl z)) (tailL (tl z)) % n = tailL (tl z) % n := by
    unfold colN
    rw [Nat.add_comm, Nat.add_mul_mod_self_left]
  have a1 : ((colN n (runsL (tl z)) (tailL (tl z)) : Nat) : Int) / (n : Int) = (((runsL (tl z)).length + divs n (runsL (tl z)) + tailL (tl z) / n : Nat) : Int) := by rw [← hq]; exact (Int.natCast_ediv _ _).symm
  have a2 : ((colN n (runsL (tl z)) (tailL (tl z)) : Nat) : Int) % (n : Int) = ((tailL (tl z) % n : Nat) : Int) := by rw [← hr]; exact (Int.natCast_emod _ _).symm
  have h3 : tailL (tl z) / n + tailL (tl z) % n ≤ tailL (tl z) := by
    have := Nat.div_add_mod (tailL (tl z)) n
    have : tailL (tl z) / n ≤ n * (tailL (tl z) / n) := Nat.le_mul_of_pos_left _ hn
    omega
  have h4 := Nat.mod_lt (tailL (tl z)) hn
  exact ⟨by rw [a1, a2]; omega, by rw [a1]; exact Int.natCast_nonneg _, by rw [a2]; omega, by rw [a2]; omega⟩
theorem tl_spaces {n : Int} : tl (Txt.mul (Str.ofString " ") n) = indL [] n.toNat := by rw [tl_mul1 tl_sp1]; rfl
end Pz
set_option maxRecDepth 100000
namespace Pz
open PySem PySem.Spec PyProof.Rows L2 TL
variable [PenC]
def inW (ws : List PyData) (i : Int) : Bool := ws.any fun z => PyData.eqv z (.int i)
def missD (ws : List PyData) : Nat → Int → PyData
  | 0, _ => .none
  | n + 1, lo => if inW ws lo then missD ws n (lo + 1) else .int lo
def isNo (d : PyData) : Bool := match d with
  | .none => true
  | _ => false
def decD (ws : List PyData) (l : Int) (tf : Bool) : Bool :=
  if tf then decide (l = 0) || (inW ws 1 && decide (max 2 l ≤ lmax (ws.map toI))) else isNo (missD ws l.toNat 1) && decide (l < lmax (ws.map toI))
def lackF (ws : List PyData) (d : PyData) : Option PyData := match d with
  | .int i => if inW ws i then none else some (.int i)
  | _ => none
def greatF (l : Int) (d : PyData) : Option PyData := match d with
  | .int i => if 2 ≤ i ∧ l ≤ i then some (.int i) else none
  | _ => none
end Pz
set_option maxRecDepth 100000
namespace Pz
open PySem PySem.Spec PyProof.Rows L2 TL
variable [PenC]
def gMax (z : Str) : Int := lmax ((runsL (tl z) ++ [tailL (tl z)]).map fun n : Nat => (n : Int))
def gMaxD (d : PyData) : Int := match d with
  | .str z => gMax z
  | _ => 0
def lonG (ls : List PyData) : Int := if ls = [] then 0 else lmax (ls.map gMaxD)
def sgnI (x y : Int) : Int := (if y < x then 1 else 0) - (if x < y then 1 else 0)
def sgnL (a b : Str) : List PyData := (rng 1 (max (gMax a) (gMax b) + 2 - 1).toNat).map fun d => .int (sgnI (colR (toI d) (runsL (tl a)) 0 + (tailL (tl a) : Nat)) (colR (toI d) (runsL (tl b)) 0 + (tailL (tl b) : Nat)))
end Pz
set_option maxRecDepth 100000
namespace Pz
open PySem PySem.Spec PyProof.Rows L2 TL
variable [PenC]
def trip (s : Nat) (e : PyData) (f : Nat → Int) : PyData := .tuple [.int (s : Nat), e, .int (f s)]
def zZ (f : Nat → Int) : List Nat → List PyData
  | [] => []
  | [s] => [trip s .none f]
  | s :: t :: r => trip s (.int ((t : Int) - 1)) f :: zZ f (t :: r)
def clo (k : Int) : List PyData → List PyData
  | [] => []
  | [.tuple [a, _, c]] => [.tuple [a, .int k, c]]
  | [d] => [d]
  | d :: r => d :: clo k r
def stA (f : Nat → Int) : Nat → List Nat
  | 0 => []
  | k + 1 => if k = 0 ∨ f k ≠ f (k + 1) then stA f k ++ [k + 1] else stA f k
def jA (f : Nat → Int) : Nat → List PyData
  | 0 => []
  | k + 1 => if k = 0 ∨ f k ≠ f (k + 1) then clo (k : Int) (jA f k) ++ [trip (k + 1) .none f] else jA f k
def stF (f : Nat → Int) (d : PyData) : Option PyData := match d with
  | .tuple [.int i, _] => if i.toNat = 0 ∨ f i.toNat ≠ f (i.toNat + 1) then some (.int (i + 1)) else none
  | _ => none
def ziF (f : Nat → Int) (d : PyData) : PyData := match d with
  | .tuple [.int s, e] => trip s.toNat e f
  | _ => .none
def sgnF (a b : Str) (w : Nat) : Int := sgnI (colR w (runsL (tl a)) 0 + (tailL (tl a) : Nat)) (colR w (runsL (tl b)) 0 + (tailL (tl b) : Nat))
end Pz
set_option maxRecDepth 100000
namespace Pz
open PySem PySem.Spec PyProof.Rows L2 TL
variable [PenC]
def trnD (d : PyData) : PyData := match d with
  | .tuple [a, b, .int c] => .tuple [a, b, .int (0 - c)]
  | _ => .none
theorem gMax_mem (z : Str) : (∀ x ∈ runsL (tl z), ((x : Nat) : Int) ≤ gMax z) ∧ ((tailL (tl z) : Nat) : Int) ≤ gMax z := by
  obtain ⟨h1, h2⟩ := lmax_mem (l := (runsL (tl z) ++ [tailL (tl z)]).map fun n : Nat => (n : Int)) (by simp)
  exact ⟨fun x m => h2 _ (List.mem_map_of_mem (List.mem_append_left _ m)), h2 _ (List.mem_map_of_mem (by simp))⟩
theorem gMax_le {z : Str} {B : Int} (h1 : ∀ x ∈ runsL (tl z), ((x : Nat) : Int) ≤ B) (h2 : ((tailL (tl z) : Nat) : Int) ≤ B) : gMax z ≤ B := by
  obtain ⟨k1, k2⟩ := lmax_mem (l := (runsL (tl z) ++ [tailL (tl z)]).map fun n : Nat => (n : Int)) (by simp)
  obtain ⟨n, mn, en⟩ := List.mem_map.mp k1
  unfold gMax
  rw [← en]
  rcases List.mem_append.mp mn with m | m
  · exact h1 n m
  · rw [List.mem_singleton.mp m]; exact h2
theorem sum_le_nat {B : Nat} : ∀ {l : List Nat}, (∀ x ∈ l, x ≤ B) → l.sum ≤ B * l.length
  | [], _ => by simp
  | x :: l, h => by
    have h1 := h x List.mem_cons_self
    have h2 := sum_le_nat (l := l) fun y m => h y (List.mem_cons_of_mem _ m)
    rw [List.sum_cons, List.length_cons, Nat.mul_add, Nat.mul_one]
    omega
theorem gMax_ind {fs : List Nat} {s : Nat} {B : Int} (h : ∀ x ∈ fs, ((x : Nat) : Int) ≤ B) (hs : (s : Int) ≤ B) : gMax (SX.S (indL fs s)) ≤ B := by
  apply gMax_le
  · rw [tl_S, runs_ind]; exact h
  · rw [tl_S, tail_ind]; exact hs
theorem sps_ind {n : Int} : Txt.mul (Str.ofString " ") n = SX.S (indL [] n.toNat) := S_of_tl tl_spaces
end Pz
set_option maxRecDepth 100000
namespace Pz
open PySem PySem.Spec PyProof.Rows L2 TL
variable [PenC]
def cL (ds : List Int) (m : Nat) : Nat → List Int
  | 0 => []
  | k + 1 => (ds.getD (m - k - 1) 0 - ((List.range ((m - (m - k)) / (m - k))).map fun i => (cL ds m k).getD (2 * (m - k) + i * (m - k) - (m - k + 1)) 0).sum) :: cL ds m k
def cA (ds : List Int) (a : Nat) : Int := if a = 0 then 0 else (cL ds ds.length (ds.length + 1 - a)).headD 0
def onesC (c : Nat → Int) : Nat → Nat → List Nat
  | _, 0 => []
  | a, n + 1 => List.replicate (max 0 (c a - c (a + 1))).toNat a ++ onesC c (a + 1) n
def twosC (c : Nat → Int) : Nat → Nat → List Nat
  | _, 0 => []
  | a, n + 1 => List.replicate (max 0 (-(c a - c (a + 1)))).toNat a ++ twosC c (a + 1) n
def apN (c : Nat → Int) (m : Nat) : Nat := max (onesC c 1 m).length (twosC c 1 m).length
def apX (c : Nat → Int) (m : Nat) : List Nat := List.replicate (apN c m - (onesC c 1 m).length) 0 ++ onesC c 1 m
def apY (c : Nat → Int) (m : Nat) : List Nat := List.replicate (apN c m - (twosC c 1 m).length) 0 ++ twosC c 1 m
def dvI (T b : Nat) : Int := if b % T = 0 then 1 else 0
def kdP (ds : List Int) (m k : Nat) : List (Int × PyData) := (List.range k).map fun i => (((m - i : Nat) : Int), .int (cA ds (m - i)))
def kdC (ds : List Int) (m k : Nat) : KD := (kdP ds m k).map fun p => (.inl p.1, p.2)
def memL (ws : List PyData) : List Int := (List.range (if ws = [] then 0 else lmax (ws.map toI)).toNat).map fun i => if inW ws (i + 1 : Nat) then 1 else 0
def okC (ds : List Int) : Prop := (apX (cA ds) ds.length).sum + (apX (cA ds) ds.length).length ≤ 900 ∧ (apY (cA ds) ds.length).sum + (apY (cA ds) ds.length).length ≤ 900
instance {ds : List Int} : Decidable (okC ds) := by unfold okC; infer_instance
def gInt : PyData → Int
  | .str x => x.length
  | _ => 0
def memI (l : List Int) : List Int := (List.range (if l = [] then 0 else lmax l).toNat).map fun i => if (l.any fun a => decide (a = (i + 1 : Nat))) then 1 else 0
def everyI : List Int := ((List.range 63).map fun i => (1 + (i : Nat) : Int)) ++ ([1000, 10 ^ 9] : List Int)
def goodI (l : List Int) : Bool := (l.all fun x => decide (1 ≤ x ∧ x ≤ 6)) && decide (l.length ≤ 6) && decide (okC (memI l)) && ((apX (cA (memI l)) (memI l).length).all fun r => decide (r < 61)) && ((apY (cA (memI l)) (memI l).length).all fun r => decide (r < 61)) && ((everyI.filter fun w => decide ((memI l).getD (w.toNat - 1) 0 ≠ 0)) == l)
def someI (b : Nat) : List Int := ((List.range 6).map fun i => ((1 + i : Nat) : Int)).filter fun w => decide (b / 2 ^ (w.toNat - 1) % 2 = 1)
end Pz
set_option maxRecDepth 100000
namespace Pz
open PySem PySem.Spec PyProof.Rows L2 TL
variable [PenC]
def spS (n : Nat) : Str := SX.S (List.replicate n 32)
theorem spS_tl {n : Nat} : tl (spS n) = List.replicate n 32 := rfl
theorem spS_len {n : Nat} : (spS n).length = n := by rw [Pz.len_tl, spS_tl, List.length_replicate]
def dcL (ds : List Int) : List Int := (List.range ds.length).map fun i => cA ds (i + 1) - cA ds (i + 2)
def szZ (ds : List Int) : Nat := max (onesC (cA ds) 1 ds.length).sum (twosC (cA ds) 1 ds.length).sum + apN (cA ds) ds.length
def cz (dd : List Int) (k : Nat) : List PyData := (List.range (dd.length + 2)).map fun i => PyData.int (if i + k ≤ dd.length then 0 else cA dd i)
theorem lay_strs : ∀ {l : List Str}, (∀ z ∈ l, PyData.strOk z = true) → PyData.canLayAll0 (l.map .str) = true ∧ PyData.depthAll (l.map .str) = 0
  | [], _ => ⟨rfl, rfl⟩
  | z :: l, h => by
    obtain ⟨h1, h2⟩ := lay_strs fun y m => h y (List.mem_cons_of_mem _ m)
    rw [List.map_cons, PyData.canLayAll0, PyData.depthAll, h1, h2, PyData.canLay0, h z List.mem_cons_self]
    simp [PyData.depth]
def halfI (x : Int) : Int := (if x < 0 then -x else x) / 2 * (if x < 0 then -1 else 1)
end Pz
set_option maxRecDepth 100000
namespace Pz
open PySem PySem.Spec PyProof.Rows L2 TL
variable [PenC]
def tri (a b : List Nat) (x : Int) : PyData := .tuple [.str (SX.S a), .str (SX.S b), .int x]
def unitL (m : Nat) : List Int := List.replicate (m - 1) 0 ++ [1]
def undD (ws : List PyData) (l : Int) (tf : Bool) : PyData :=
  if decD ws l tf = true then .none
  else if tf = true then (if inW ws 1 = true then tri (indL [0] 0) (indL [] l.toNat) (max 2 l) else tri (indL [0] 0) (indL [] 1) 1)
  else match missD ws l.toNat 1 with
    | .int m => tri (indL (apX (cA (unitL m.toNat)) m.toNat) 0) (indL (apY (cA (unitL m.toNat)) m.toNat) 0) m
    | _ => tri (indL [0] 0) (indL [l.toNat] 0) (l + 1)
def sgR (w : Nat) (ra : List Nat) (ta : Nat) (rb : List Nat) (tb : Nat) : Int := sgnI (colR (w : Nat) ra 0 + (ta : Nat)) (colR (w : Nat) rb 0 + (tb : Nat))
structure Und (ws : List PyData) (l : Int) (tf : Bool) (ra : List Nat) (ta : Nat) (rb : List Nat) (tb : Nat) (x : Nat) : Prop where
  a : ∀ r ∈ ra, ((r : Nat) : Int) ≤ l
  b : ∀ r ∈ rb, ((r : Nat) : Int) ≤ l
  la' : (ta : Int) ≤ l
  lb' : (tb : Int) ≤ l
  fr : tf = true → (∀ r ∈ ra, r = 0) ∧ ∀ r ∈ rb, r = 0
  x1 : 1 ≤ x
  x2 : x ≤ 1000
  la : ra.sum + ra.length + ta ≤ 900
  lb : rb.sum + rb.length + tb ≤ 900
  sg : ∃ s : Int, (∀ w : Nat, .int (w : Nat) ∈ ws → 1 ≤ w → sgR w ra ta rb tb = s) ∧ sgR x ra ta rb tb ≠ s
def okU (m : Nat) : Bool := decide (szZ (unitL m) ≤ 900)
end Pz
set_option maxRecDepth 100000
namespace Pz
open PySem PySem.Spec PyProof.Rows L2 TL
variable [PenC]
def rowF (w : Nat) (d : PyData) : Option PyData := match d with
  | .tuple [.int s, .none, z] => if s ≤ (w : Int) then some z else none
  | .tuple [.int s, .int t, z] => if s ≤ (w : Int) ∧ (w : Int) ≤ t then some z else none
  | _ => none
def sameB (a b : Str) (ws : List PyData) : Bool := ws.all fun d => decide (sgnF a b (toI d).toNat = sgnF a b (toI (ws.headD .none)).toNat)
def isInd (d : PyData) : Bool := match d with
  | .str z => decide (z.length ≤ 1000) && (tl z).all fun c => decide (c = 32) || decide (c = 9)
  | _ => false
def blC (c : Nat) : Bool := decide (c = 32) || decide (c = 9)
def sgnB (d : PyData) : Bool := match d with
  | .str z => (tl z).all blC
  | _ => false
def tabF (z : Str) : Bool := decide ((runsL (tl z)).sum = 0)
def sof (d : PyData) : Str := match d with
  | .str z => z
  | _ => Str.ofString ""
def showC (ws : List PyData) (l : Int) (a b : Str) (w : Int) (tf : Bool) : Bool :=
  decide (max (gMax a) (gMax b) ≤ l) && (!tf || (tabF a && tabF b)) && sameB a b ws && !decide (sgnF a b w.toNat = sgnF a b (toI (ws.headD .none)).toNat)
def showB (ws : List PyData) (l : Int) (v : PyData) (tf : Bool) : Bool := match v with
  | .tuple [x, y, w] => isInd x && isInd y && intBetw w 1 1000000000 && showC ws l (sof x) (sof y) (toI w) tf
  | _ => false
theorem joinL_tab : ∀ (rs : List Nat) (t : Nat), TL.joinL [9] (rs.map (fun r => List.replicate r 32) ++ [List.replicate t 32]) = indL rs t
  | [], t => by simp [TL.joinL, indL, indP]
  | [r], t => by simp [TL.joinL, indL, indP]
  | r :: s :: rs, t => by
    have := joinL_tab (s :: rs) t
    simp only [List.map_cons, List.cons_append] at this ⊢
    rw [TL.joinL, this]
    simp [indL, indP_cons]
theorem join_tab (rs : List Nat) (t : Nat) : Txt.join (Str.ofString "\t") (rs.map spS ++ [spS t]) = SX.S (indL rs t) := by
  have e1 : Str.ofString "\t" = SX.S [9] := by decide +kernel
  have e2 : rs.map spS ++ [spS t] = (rs.map (fun r => List.replicate r 32) ++ [List.replicate t 32]).map SX.S := by
    rw [List.map_append, List.map_map]; rfl
  rw [e1, e2, SX.join_S, joinL_tab]
def Sps (l : Nat) (ds : List PyData) : Prop := ∀ d ∈ ds, ∃ n, n ≤ l ∧ d = .str (spS n)
theorem Sps.nums {l : Nat} : ∀ {ds : List PyData}, Sps l ds → ∃ ns : List Nat, ds = ns.map (fun n => .str (spS n)) ∧ ∀ n ∈ ns, n ≤ l
  | [], _ => ⟨[], rfl, fun n m => by cases m⟩
  | d :: ds, h => by
    obtain ⟨n, hn, rfl⟩ := h d List.mem_cons_self
    obtain ⟨ns, rfl, hs⟩ := Sps.nums (ds := ds) fun d m => h d (List.mem_cons_of_mem _ m)
    exact ⟨n :: ns, rfl, fun k m => by rcases List.mem_cons.mp m with rfl | m; exact hn; exact hs k m⟩
theorem Sps.text {l : Nat} {ds : List PyData} (h : Sps l ds) (hl : 0 < ds.length) : ∃ (rs : List Nat) (t : Nat), asStrs ds = some (rs.map spS ++ [spS t]) ∧ (∀ r ∈ rs, r ≤ l) ∧ t ≤ l ∧ rs.length + 1 = ds.length := by
  obtain ⟨ns, rfl, hn⟩ := h.nums
  rw [List.length_map] at hl
  rcases List.eq_nil_or_concat ns with rfl | ⟨rs, t, rfl⟩
  · simp at hl
  · rw [List.concat_eq_append] at hn ⊢
    refine ⟨rs, t, ?_, fun r m => hn r (by simp [m]), hn t (by simp), by simp⟩
    rw [show (fun n => PyData.str (spS n)) = PyData.str ∘ spS from rfl, ← List.map_map, asStrs_map]
    simp
theorem sp_spS {n : Int} : Txt.mul (Str.ofString " ") n = spS n.toNat := by
  rw [sps_ind]; rfl
end Pz
namespace Pz
open PySem PySem.Spec PyProof.Rows L2 TL
variable [PenC]
def sameG (a b : Str) (ws : List PyData) (d : PyData) : Option PyData := if sgnF a b (toI d).toNat = sgnF a b (toI (ws.headD .none)).toNat then none else some (.int 1)
section
variable {ws : List PyData} {l : Int} {ra : List Nat} {ta : Nat} {rb : List Nat} {tb x : Nat}
end
end Pz
namespace Pz
open PySem PySem.Spec PyProof.Rows L2 TL
variable [PenC]
theorem spS_sum (rs : List Nat) (t : Nat) : ((rs.map Pz.spS ++ [Pz.spS t]).map fun x => x.length).sum = rs.sum + t := by
  rw [List.map_append, List.map_map, show ((fun x : Str => x.length) ∘ Pz.spS) = id from funext fun n => spS_len]
  simp [spS_len]
end Pz
namespace Pz
open PySem PySem.Spec PyProof.Rows L2 TL
variable [PenC]
end Pz
set_option maxRecDepth 100000
namespace Pz
open PySem PySem.Spec PyProof.Rows L2 TL
variable [PenC]
def blkB (d : PyData) (l : Int) (tf : Bool) : Bool := isInd d && (!tf || tabF (sof d)) && decide (gMax (sof d) ≤ l)
def pairB (ws : List PyData) (l : Int) (v : PyData) (tf : Bool) : Bool := match v with
  | .tuple [x, y, w] => blkB x l tf && (blkB y l tf && (intBetw w 1 1000000000 && (sameB (sof x) (sof y) ws && !decide (sgnF (sof x) (sof y) (toI w).toNat = sgnF (sof x) (sof y) (toI (ws.headD .none)).toNat))))
  | _ => false
end Pz
namespace Pz
open PySem PySem.Spec PyProof.Rows L2 TL
variable [PenC]
def sgD (a b : Str) (d : PyData) : PyData := .int (sgnF a b (toI d).toNat)
end Pz
namespace Pz
open PySem PySem.Spec PyProof.Rows L2 TL
variable [PenC]
end Pz
namespace Pz
open PySem PySem.Spec PyProof.Rows L2 TL
variable [PenC]
end Pz
namespace Pz
open PySem PySem.Spec PyProof.Rows L2 TL
variable [PenC]
theorem okT {x y : Str} (h1 : PyData.strOk x = true) (h2 : PyData.strOk y = true) : PyData.strOk (x ++ y) = true := by
  rw [strOk_iff] at *
  intro c m
  rw [tl_add] at m
  exact (List.mem_append.mp m).elim (h1 c) (h2 c)
end Pz
set_option maxRecDepth 100000
namespace Pz
open PySem PySem.Spec PyProof.Rows L2 TL
variable [PenC]
def fdN (cs : List Int) : Nat := (cs.getD 0 0).toNat
def fdT (cs : List Int) : Int := cs.getD (fdN cs) 0 / ((fdN cs : Int) + 1)
def fdR (cs : List Int) : Int := cs.getD (fdN cs) 0 % ((fdN cs : Int) + 1)
def dsI (cs : List Int) : List Int := (List.range (fdN cs)).map fun i => (cs.getD i 0 - fdR cs) / ((i + 1 : Nat) : Int) - fdT cs
def fltAt (cs : List Int) (w : Nat) : Option PyData :=
  if (cs.getD (w - 1) 0 - fdR cs) % (w : Int) ≠ 0 then some (.tuple [.str (Str.ofString "remainder"), .int (w : Nat)])
  else if cA (dsI cs) w < cA (dsI cs) (w + 1) then some (.tuple [.str (Str.ofString "rise"), .int (w : Nat)]) else none
def fltL (cs : List Int) : Nat → Option PyData
  | 0 => none
  | w + 1 => match fltAt cs (w + 1) with
    | some d => some d
    | none => fltL cs w
def fltT (cs : List Int) : PyData := match fltL cs (fdN cs) with
  | some d => d
  | none => if 0 < fdN cs ∧ fdT cs < cA (dsI cs) 1 then .tuple [.str (Str.ofString "tabs")] else .none
def shapeB (d : PyData) : Bool := match d with
  | .list (d0 :: ds) => (d0 :: ds).all (intFrom · 0) && decide (toI d0 ≤ 60) && decide (((d0 :: ds).length : Int) = toI d0 + 1)
  | _ => false
def fltD (d : PyData) : PyData := match d with
  | .list ds => if shapeB (.list ds) = true then fltT (ds.map toI) else .tuple [.str (Str.ofString "shape")]
  | _ => .tuple [.str (Str.ofString "shape")]
structure ShapeI (cs : List Int) : Prop where
  nn : ∀ x ∈ cs, 0 ≤ x
  le : fdN cs ≤ 60
  ln : cs.length = fdN cs + 1
  hd : cs.getD 0 0 = (fdN cs : Int)
def geC (rs : List Nat) (w : Nat) : Nat := (rs.filter fun r => decide (w ≤ r)).length
structure ColsOf (cs : List Int) (rs : List Nat) (t : Nat) : Prop where
  n : fdN cs = rs.sum + rs.length + t
  at_ : ∀ w, 0 < w → w ≤ fdN cs + 1 → cs.getD (w - 1) 0 = (w * (rs.length + divs w rs) + t : Nat)
def kdF (cs : List Int) (k : Nat) : KD := (.inl ((fdN cs + 1 : Nat) : Int), .int 0) :: kdC (dsI cs) (fdN cs) k
def lwF (cs : List Int) (k : Nat) : List PyData := (List.range (fdN cs + 2)).map fun i => .int (if fdN cs - k < i then cA (dsI cs) i else 0)
structure ItmI (d : PyData) : Prop where
  r : RepP 200 1 d
  i : ∀ i, d = .int i → i.natAbs < 10 ^ 60
def colsD (z : Str) : List PyData := (List.range (z.length + 1)).map fun i => PyData.int (colR ((i + 1 : Nat) : Int) (runsL (tl z)) 0 + (tailL (tl z) : Nat))
end Pz
set_option maxRecDepth 100000
namespace Pz
open PySem PySem.Spec PyProof.Rows L2 TL
variable [PenC]
abbrev Rn (x : Int) : Prop := 0 ≤ x ∧ x ≤ 10000
def lsD : PyData → List PyData
  | .list l => l
  | .tuple l => l
  | _ => []
def isSeq (x : PyData) : Prop := ∃ l, x = .list l ∨ x = .tuple l
def szD (x : PyData) (m : Int) : Nat := ((lsD x).map toN).sum + (lsD x).length + m.toNat
def stD (x : PyData) (m : Int) : PyData := .str (SX.S (indL ((lsD x).map toN) m.toNat))
def dueD (x : PyData) (m : Int) : PyData := if 1000 < szD x m then .tuple [.str "long", .int (szD x m)] else .list [stD x m]
def preD (x : PyData) (m : Int) : Prop := isSeq x ∧ Ints Rn (lsD x) ∧ (lsD x).length ≤ 1000 ∧ 0 ≤ m ∧ m ≤ 100000
abbrev okZ (z : Str) (w : Int) : Prop := blankL (tl z) ∧ z.length ≤ 1000 ∧ 0 < w ∧ w ≤ 10 ^ 9
def spZ (z : Str) (w : Int) : PyData := .str (SX.S (indL [] (colZ w z).toNat))
def dueE (z : Str) (w : Int) : PyData := if 1000 < colZ w z then .tuple [.str "long", .int (colZ w z)] else .list [spZ z w]
end Pz
set_option maxRecDepth 100000
namespace Pz
open PySem PySem.Spec PyProof.Rows L2 TL
variable [PenC]
def rsI (cs : List Int) : List Nat := List.replicate (fdT cs - cA (dsI cs) 1).toNat 0 ++ onesC (cA (dsI cs)) 1 (fdN cs)
def inD : PyData → PyData
  | .list ds => .str (SX.S (indL (rsI (ds.map toI)) (fdR (ds.map toI)).toNat))
  | _ => .none
def hdI (d : PyData) : PyData := match fltD d with
  | .none => inD d
  | f => .list [f]
end Pz
set_option maxRecDepth 100000
namespace Pz
open PySem PySem.Spec PyProof.Rows L2 TL
variable [PenC]
def rowsA : List Nat → List Nat → List (List Nat)
  | acc, [] => [acc]
  | acc, c :: l => if c = 10 then acc :: rowsA [] l else rowsA (acc ++ [c]) l
def rowsL (l : List Nat) : List (List Nat) := rowsA [] l
theorem rowsA_len : ∀ (l acc : List Nat), ((rowsA acc l).map List.length).sum + (rowsA acc l).length = acc.length + l.length + 1
  | [], acc => by simp [rowsA]
  | c :: l, acc => by
    rw [rowsA]
    split
    · have := rowsA_len l []
      simp only [List.map_cons, List.sum_cons, List.length_cons, List.length_nil] at this ⊢
      omega
    · have := rowsA_len l (acc ++ [c])
      simp only [List.length_append, List.length_cons, List.length_nil] at this ⊢
      omega
theorem rowsL_len (l : List Nat) : ((rowsL l).map List.length).sum + (rowsL l).length = l.length + 1 := by
  have := rowsA_len l []
  simpa [rowsL] using this
theorem rowsA_acc : ∀ (l acc : List Nat), rowsA acc l = match rowsA [] l with
    | x :: xs => (acc ++ x) :: xs
    | [] => []
  | [], acc => by simp [rowsA]
  | c :: l, acc => by
    rw [rowsA, rowsA]
    by_cases h : c = 10
    · rw [if_pos h, if_pos h]; simp
    · rw [if_neg h, if_neg h, rowsA_acc l (acc ++ [c]), rowsA_acc l ([] ++ [c])]
      cases rowsA [] l with
      | nil => rfl
      | cons x xs => simp
theorem rowsL_one : ∀ {x : List Nat}, 10 ∉ x → rowsL x = [x]
  | [], _ => rfl
  | c :: x, h => by
    have hc : c ≠ 10 := fun z => h (by rw [z]; exact List.mem_cons_self)
    have ih := rowsL_one (x := x) fun m => h (List.mem_cons_of_mem _ m)
    unfold rowsL at *
    rw [rowsA, if_neg hc, rowsA_acc, ih]
    rfl
theorem tw_mem {p : Nat → Bool} {c : Nat} : ∀ {l : List Nat}, c ∈ l.takeWhile p → p c = true
  | [], m => by cases m
  | a :: l, m => by
    rw [List.takeWhile_cons] at m
    cases h : p a with
    | true =>
      rw [h, if_pos rfl] at m
      rcases List.mem_cons.mp m with rfl | m
      · exact h
      · exact tw_mem m
    | false => rw [h] at m; cases m
def ldL (l : List Nat) : List Nat := l.takeWhile blC
def rsL (l : List Nat) : List Nat := l.dropWhile blC
theorem ld_rs (l : List Nat) : ldL l ++ rsL l = l := List.takeWhile_append_dropWhile ..
def stp (c : Nat) : Int := if c = 40 ∨ c = 91 ∨ c = 123 then 1 else if c = 41 ∨ c = 93 ∨ c = 125 then -1 else 0
def dpL : List Nat → Int → Option Int
  | [], d => some d
  | c :: l, d => if d + stp c < 0 then none else dpL l (d + stp c)
def cdL (l : List Nat) : List Nat := l.takeWhile fun c => decide (c ≠ 35)
def bgL : List Nat → Bool
  | [] => false
  | c :: _ => decide (c ≠ 35)
abbrev Ln := Nat × List Nat × List Nat
def addL (l : List Nat) : List Ln → List Ln
  | [] => []
  | [(n, i, b)] => [(n, i, b ++ 10 :: l)]
  | x :: y :: r => x :: addL l (y :: r)
def stepL (found : List Ln) (d : Int) (n : Nat) (l : List Nat) : List Ln :=
  if 0 < d then addL l found else if bgL (rsL l) = true then found ++ [(n, ldL l, rsL l)] else found
def goL : List Ln → Int → Nat → List (List Nat) → Sum (List Ln × Int) Nat
  | found, d, _, [] => .inl (found, d)
  | found, d, n, l :: r => match dpL (cdL l) d with
    | none => .inr n
    | some d' => goL (stepL found d n l) d' (n + 1) r
inductive LR where
  | ok (ls : List Ln)
  | err (c : Str) (fs : List (Str × PyData))
def logL (l : List Nat) : LR :=
  if ((rowsL l).all fun r => decide ((ldL r).length ≤ 1000)) = true then
    match goL [] 0 0 (rowsL l) with
    | .inr n => .err "UnbalancedBracket" [("number", .int (n : Nat))]
    | .inl (found, d) => if 0 < d then .err "UnbalancedBracket" [("number", .int (((rowsL l).length : Int) - 1))]
      else if 20 < found.length then .err "TooMany" [("count", .int (found.length : Nat))] else .ok found
  else .err "InvalidText" []
def lnS (l : List Nat) : List Ln := match logL l with
  | .ok ls => ls
  | _ => []
def okTx (l : List Nat) : Prop := ∃ ls, logL l = .ok ls
def lnD (l : Ln) : PyData := .tuple [.int (l.1 : Nat), .str (SX.S l.2.1), .str (SX.S l.2.2)]
theorem cd_blank {l : List Nat} (h : bgL (rsL l) = false) : dpL (cdL l) 0 = some 0 := by
  have e : ∀ x : List Nat, (∀ c ∈ x, blC c = true) → dpL x 0 = some 0 := by
    intro x
    induction x with
    | nil => intro _; rfl
    | cons c x ih =>
      intro hx
      have hc := hx c List.mem_cons_self
      have hs : stp c = 0 := by
        unfold blC at hc
        rcases (by simpa using hc : c = 32 ∨ c = 9) with rfl | rfl <;> rfl
      rw [dpL, hs, if_neg (by decide)]
      exact ih fun y m => hx y (List.mem_cons_of_mem _ m)
  refine e _ ?_
  have hl := ld_rs l
  unfold cdL
  rw [← hl]
  cases hr : rsL l with
  | nil =>
    rw [List.append_nil]
    intro c m
    have m2 := (List.takeWhile_subset _ m : c ∈ ldL l)
    exact tw_mem m2
  | cons a r =>
    rw [hr] at h
    have ha : a = 35 := by simpa [bgL] using h
    have hb : ∀ c ∈ ldL l, blC c = true := fun c m => tw_mem m
    intro c m
    have : ∀ x : List Nat, (∀ c ∈ x, blC c = true) → (x ++ a :: r).takeWhile (fun c => decide (c ≠ 35)) = x := by
      intro x
      induction x with
      | nil => intro _; rw [List.nil_append, List.takeWhile_cons, ha]; rfl
      | cons y x ih =>
        intro hx
        have hy := hx y List.mem_cons_self
        have hy2 : decide (y ≠ 35) = true := by
          unfold blC at hy
          rcases (by simpa using hy : y = 32 ∨ y = 9) with rfl | rfl <;> rfl
        rw [List.cons_append, List.takeWhile_cons, if_pos hy2, ih fun z m => hx z (List.mem_cons_of_mem _ m)]
    rw [this _ hb] at m
    exact hb c m
theorem addL_snoc {l : List Nat} {n : Nat} {i b : List Nat} : ∀ f : List Ln, addL l (f ++ [(n, i, b)]) = f ++ [(n, i, b ++ 10 :: l)]
  | [] => rfl
  | [x] => rfl
  | x :: y :: r => by
    have := addL_snoc (l := l) (n := n) (i := i) (b := b) (y :: r)
    rw [List.cons_append, List.cons_append, addL, ← List.cons_append, this]
    rfl
def phD : PyData → Option (List PyData)
  | .str z => if ((rowsL (tl z)).all fun r => decide ((ldL r).length ≤ 1000)) = true then some ((rowsL (tl z)).map fun r => .str (SX.S r)) else none
  | _ => none
def lgD : PyData → LR
  | .str z => logL (tl z)
  | _ => .err "InvalidText" []
end Pz
set_option maxRecDepth 100000
namespace Pz
open PySem PySem.Spec PyProof.Rows L2 TL
variable [PenC]
abbrev tpI (l : List Int) : PyData := .tuple (l.map .int)
def trT (s : Nat) (e : PyData) (f : Nat → List Int) : PyData := .tuple [.int (s : Nat), e, tpI (f s)]
def zT (f : Nat → List Int) : List Nat → List PyData
  | [] => []
  | [s] => [trT s .none f]
  | s :: t :: r => trT s (.int ((t : Int) - 1)) f :: zT f (t :: r)
def stT (f : Nat → List Int) : Nat → List Nat
  | 0 => []
  | k + 1 => if k = 0 ∨ f k ≠ f (k + 1) then stT f k ++ [k + 1] else stT f k
def jT (f : Nat → List Int) (n : Nat) : List PyData := zT f (stT f n)
def sfT (f : Nat → List Int) (d : PyData) : Option PyData := match d with
  | .tuple [.int i, _] => if i.toNat = 0 ∨ f i.toNat ≠ f (i.toNat + 1) then some (.int (i + 1)) else none
  | _ => none
def ziT (f : Nat → List Int) (d : PyData) : PyData := match d with
  | .tuple [.int s, e] => trT s.toNat e f
  | _ => .none
def swT (d : PyData) : PyData := match d with
  | .tuple [.tuple [b, v], e] => .tuple [b, e, v]
  | d => d
def toZ : PyData → Str
  | .str z => z
  | _ => ⟨#[]⟩
def lastI (s : List Int) : Int := s.getLastD 0
theorem lastI_snoc {s : List Int} {c : Int} : lastI (s ++ [c]) = c := by simp [lastI]
def nxS (s f : List Int) (c : Int) : List Int := if lastI s < c ∧ f ≠ [] then s ++ [c] else s.filter fun x => decide (x ≤ c)
def lvG : List Int → List Int → List Int → List Int
  | _, f, [] => f
  | s, f, c :: r => if lastI (nxS s f c) = c then lvG (nxS s f c) (f ++ [((nxS s f c).length : Int) - 1]) r else f
def lvF (cs : List Int) : List Int := lvG [0] [] cs
def Asc (s : List Int) : Prop := s.Pairwise (· < ·) ∧ ∃ r, s = 0 :: r
theorem Asc.ne {s : List Int} (h : Asc s) : s ≠ [] := by obtain ⟨_, r, rfl⟩ := h; exact nofun
theorem Asc.fil {s : List Int} (h : Asc s) {c : Int} (hc : 0 ≤ c) : Asc (s.filter fun x => decide (x ≤ c)) := by
  obtain ⟨h1, r, rfl⟩ := h
  refine ⟨h1.filter _, r.filter fun x => decide (x ≤ c), ?_⟩
  rw [List.filter_cons_of_pos (by simpa using hc)]
theorem Asc.le_last {s : List Int} (h : Asc s) : ∀ x ∈ s, x ≤ lastI s := by
  obtain ⟨a, y, rfl⟩ : ∃ a x, s = a ++ [x] := ⟨_, _, (List.dropLast_concat_getLast h.ne).symm⟩
  rw [lastI_snoc]
  intro x m
  rcases List.mem_append.mp m with m | m
  · have := (List.pairwise_append.mp h.1).2.2 x m y (by simp); omega
  · rw [List.mem_singleton.mp m]; omega
theorem Asc.snoc {s : List Int} (h : Asc s) {c : Int} (hc : lastI s < c) : Asc (s ++ [c]) := by
  refine ⟨List.pairwise_append.mpr ⟨h.1, List.pairwise_singleton _ _, fun x m y my => ?_⟩, ?_⟩
  · rw [List.mem_singleton.mp my]; have := h.le_last x m; omega
  · obtain ⟨_, r, rfl⟩ := h; exact ⟨r ++ [c], rfl⟩
theorem Asc.nx {s f : List Int} (h : Asc s) {c : Int} (hc : 0 ≤ c) : Asc (nxS s f c) := by
  unfold nxS
  split
  · next q => exact h.snoc q.1
  · exact h.fil hc
theorem nxS_len {s f : List Int} {c : Int} : (nxS s f c).length ≤ s.length + 1 := by
  unfold nxS
  split
  · simp
  · have := List.length_filter_le (fun x => decide (x ≤ c)) s; omega
theorem Asc.len {s : List Int} (h : Asc s) : 0 < s.length := List.length_pos_iff.mpr h.ne
theorem asc0 : Asc [0] := ⟨List.pairwise_singleton _ _, [], rfl⟩
theorem lvG_bd {B : Int} : ∀ (cs s f : List Int), Asc s → (∀ c ∈ cs, 0 ≤ c) → (∀ x ∈ f, 0 ≤ x ∧ x ≤ B) → (s.length : Int) + cs.length ≤ B + 1 → (∀ x ∈ lvG s f cs, 0 ≤ x ∧ x ≤ B) ∧ (lvG s f cs).length ≤ f.length + cs.length
  | [], s, f, h, hc, hf, hB => ⟨hf, Nat.le_add_right _ _⟩
  | c :: r, s, f, h, hc, hf, hB => by
    rw [lvG]
    have hc0 := hc c List.mem_cons_self
    have h2 := h.nx (f := f) hc0
    have h3 := nxS_len (s := s) (f := f) (c := c)
    have h4 := h2.len
    rw [List.length_cons] at hB
    split
    · obtain ⟨g1, g2⟩ := lvG_bd (B := B) r (nxS s f c) (f ++ [((nxS s f c).length : Int) - 1]) h2 (fun x m => hc x (List.mem_cons_of_mem _ m)) (fun x m => by
        rcases List.mem_append.mp m with m | m
        · exact hf x m
        · rw [List.mem_singleton.mp m]; omega) (by omega)
      refine ⟨g1, ?_⟩
      rw [List.length_append, List.length_singleton] at g2
      rw [List.length_cons]; omega
    · exact ⟨hf, by omega⟩
theorem lvF_bd {cs : List Int} (hc : ∀ c ∈ cs, 0 ≤ c) : (∀ x ∈ lvF cs, 0 ≤ x ∧ x ≤ cs.length) ∧ (lvF cs).length ≤ cs.length := by
  have := lvG_bd (B := cs.length) cs [0] [] asc0 hc (fun x m => by cases m) (by simp; omega)
  rw [List.length_nil, Nat.zero_add] at this
  exact this
def afS (s : List Int) (c : Int) : PyData := if lastI s < c then .list ((s ++ [c]).map .int) else if lastI (s.filter fun x => decide (x ≤ c)) = c then .list ((s.filter fun x => decide (x ≤ c)).map .int) else .none
def lvE (zs : List Str) (w : Nat) : List Int := lvF (zs.map (colZ (w : Int)))
def vwD (zs : List Str) : List PyData := jT (lvE zs) (lonG (zs.map .str) + 1).toNat
def GoodL (m : Int) (z : Str) : Prop := blankL (tl z) ∧ gMax z ≤ m ∧ (runsL (tl z)).length ≤ 8
theorem GoodL.len {m : Int} {z : Str} (h : GoodL m z) (h0 : 0 ≤ m) : (z.length : Int) ≤ 9 * m + 8 := by
  obtain ⟨h1, h2, h3⟩ := h
  obtain ⟨g1, g2⟩ := gMax_mem z
  have hr := rt_len (tl z)
  rw [← Pz.len_tl] at hr
  have hs := sum_le_nat (B := m.toNat) (l := runsL (tl z)) (fun x mx => by have := g1 x mx; omega)
  have hm : m.toNat * (runsL (tl z)).length ≤ m.toNat * 8 := Nat.mul_le_mul_left _ h3
  omega
end Pz
set_option maxRecDepth 100000
namespace Pz
open PySem PySem.Spec PyProof.Rows L2 TL
variable [PenC]
theorem rowsA_app : ∀ (x acc y : List Nat), rowsA acc (x ++ 10 :: y) = rowsA acc x ++ rowsA [] y
  | [], acc, y => by
    rw [List.nil_append, rowsA, rowsA, if_pos rfl]; rfl
  | c :: x, acc, y => by
    rw [List.cons_append, rowsA, rowsA]
    by_cases h : c = 10
    · rw [if_pos h, if_pos h, rowsA_app x [] y]; rfl
    · rw [if_neg h, if_neg h, rowsA_app x _ y]
theorem rowsL_app (x y : List Nat) : rowsL (x ++ 10 :: y) = rowsL x ++ rowsL y := rowsA_app x [] y
theorem rowsL_pre {l : List Nat} (h : 10 ∉ l) (w : List Nat) : rowsL (l ++ w) = match rowsL w with
    | x :: xs => (l ++ x) :: xs
    | [] => [] := by
  have main : ∀ (l acc : List Nat), 10 ∉ l → rowsA acc (l ++ w) = rowsA (acc ++ l) w := by
    intro l
    induction l with
    | nil => intro acc _; rw [List.nil_append, List.append_nil]
    | cons c l ih =>
      intro acc h
      have hc : c ≠ 10 := fun z => h (by rw [z]; exact List.mem_cons_self)
      rw [List.cons_append, rowsA, if_neg hc, ih _ fun m => h (List.mem_cons_of_mem _ m)]
      simp
  unfold rowsL
  rw [main l [] h, List.nil_append, rowsA_acc]
  all_goals (cases rowsA [] w <;> rfl)
theorem rows_join : ∀ {ps : List (List Nat)}, ps ≠ [] → rowsL (TL.joinL [10] ps) = ps.flatMap rowsL
  | [], h => absurd rfl h
  | [p], _ => by simp [TL.joinL]
  | p :: q :: r, _ => by
    have ih := rows_join (ps := q :: r) nofun
    rw [List.flatMap_cons, ← ih, ← rowsL_app]
    rfl
def Pc (p : List Nat) (e : List (List Nat × List Nat)) : Prop := (∀ r ∈ rowsL p, (ldL r).length ≤ 1000) ∧
  ∀ f n rest, goL f 0 n (rowsL p ++ rest) = goL (f ++ e.map fun x => (n, x.1, x.2)) 0 (n + (rowsL p).length) rest
abbrev Pcs := List Nat × List (List Nat × List Nat)
def pgE : Nat → List Pcs → List Ln
  | _, [] => []
  | n, (p, e) :: ps => (e.map fun x => (n, x.1, x.2)) ++ pgE (n + (rowsL p).length) ps
theorem page_go : ∀ (ps : List Pcs) (f : List Ln) (n : Nat), (∀ x ∈ ps, Pc x.1 x.2) → goL f 0 n (ps.flatMap fun x => rowsL x.1) = .inl (f ++ pgE n ps, 0)
  | [], f, n, _ => by rw [List.flatMap_nil, goL, pgE, List.append_nil]
  | (p, e) :: ps, f, n, h => by
    have h1 : Pc p e := h (p, e) List.mem_cons_self
    rw [List.flatMap_cons, h1.2, page_go ps _ _ (fun x m => h x (List.mem_cons_of_mem _ m)), pgE, List.append_assoc]
theorem pgE_snd : ∀ (ps : List Pcs) (n : Nat), (pgE n ps).map (fun x => x.2) = ps.flatMap fun x => x.2
  | [], _ => rfl
  | (p, e) :: ps, n => by
    rw [pgE, List.map_append, pgE_snd ps, List.flatMap_cons, List.map_map]
    congr 1
    exact List.map_id'' (fun _ => rfl) _
theorem page_ok {ps : List Pcs} (h : ∀ x ∈ ps, Pc x.1 x.2) (hc : (ps.flatMap fun x => x.2).length ≤ 20) : logL (TL.joinL [10] (ps.map fun x => x.1)) = .ok (pgE 0 ps) := by
  by_cases hn : ps = []
  · subst hn; rfl
  · have hr : rowsL (TL.joinL [10] (ps.map fun x => x.1)) = ps.flatMap fun x => rowsL x.1 := by
      rw [rows_join (by simpa using hn), List.flatMap_map]
    have hl : (pgE 0 ps).length ≤ 20 := by
      have := congrArg List.length (pgE_snd ps 0)
      rw [List.length_map] at this
      omega
    unfold logL
    rw [hr, if_pos, page_go ps [] 0 h, List.nil_append]
    · dsimp only
      rw [if_neg (by decide), if_neg (by omega)]
    · refine List.all_eq_true.mpr fun r m => ?_
      obtain ⟨x, mx, mr⟩ := List.mem_flatMap.mp m
      exact decide_eq_true ((h x mx).1 r mr)
theorem page_lns {ps : List Pcs} (h : ∀ x ∈ ps, Pc x.1 x.2) (hc : (ps.flatMap fun x => x.2).length ≤ 20) : okTx (TL.joinL [10] (ps.map fun x => x.1)) ∧ lnS (TL.joinL [10] (ps.map fun x => x.1)) = pgE 0 ps := by
  have := page_ok h hc
  exact ⟨⟨_, this⟩, by unfold lnS; rw [this]⟩
theorem pc_fill {p : List Nat} (h : 10 ∉ p) (hb : bgL (rsL p) = false) (hl : (ldL p).length ≤ 1000) : Pc p [] := by
  refine ⟨fun r m => ?_, fun f n rest => ?_⟩
  · rw [rowsL_one h, List.mem_singleton] at m
    rw [m]; exact hl
  · rw [rowsL_one h, List.singleton_append, goL, cd_blank hb]
    dsimp only
    unfold stepL
    rw [if_neg (by decide), hb, if_neg (by decide), List.map_nil, List.append_nil]
    rfl
def runW : List Nat → Int → List (List Nat) → Option (List Nat)
  | b, d, [] => if d = 0 then some b else none
  | b, d, r :: rs => if 0 < d then match dpL (cdL r) d with
      | some d' => runW (b ++ 10 :: r) d' rs
      | none => none
    else none
theorem runW_go {l : List Nat} {k : Nat} {b2 : List Nat} {f : List Ln} {rest : List (List Nat)} : ∀ (ws : List (List Nat)) (b : List Nat) (d : Int) (n : Nat), runW b d ws = some b2 →
    goL (f ++ [(k, l, b)]) d n (ws ++ rest) = goL (f ++ [(k, l, b2)]) 0 (n + ws.length) rest
  | [], b, d, n, h => by
    rw [runW] at h
    by_cases hd : d = 0
    · rw [if_pos hd] at h
      cases h
      rw [hd]; rfl
    · rw [if_neg hd] at h; cases h
  | r :: ws, b, d, n, h => by
    rw [runW] at h
    by_cases hd : 0 < d
    · rw [if_pos hd] at h
      rw [List.cons_append, goL]
      cases e : dpL (cdL r) d with
      | none => rw [e] at h; cases h
      | some d' =>
        rw [e] at h
        dsimp only at h ⊢
        unfold stepL
        rw [if_pos hd, addL_snoc, runW_go ws _ _ _ h, List.length_cons, show n + 1 + ws.length = n + (ws.length + 1) by omega]
    · rw [if_neg hd] at h; cases h
def nameB (w : List Nat) : Bool := match rowsL w with
  | [] => false
  | w0 :: ws => (match w0 with
      | [] => false
      | c :: _ => !blC c && decide (c ≠ 35)) && ws.all (fun r => decide ((ldL r).length ≤ 1000)) && match dpL (cdL w0) 0 with
        | some d => decide (runW w0 d ws = some w)
        | none => false
theorem blank10 {l : List Nat} (h : blankL l) : 10 ∉ l := fun m => by rcases h 10 m with h | h <;> cases h
theorem blC_of {c : Nat} (h : c = 32 ∨ c = 9) : blC c = true := by rcases h with rfl | rfl <;> rfl
theorem blank_dp {l : List Nat} (h : blankL l) (x : List Nat) : dpL (cdL (l ++ x)) 0 = dpL (cdL x) 0 := by
  induction l with
  | nil => rfl
  | cons c l ih =>
    have hc := h c List.mem_cons_self
    have hs : stp c = 0 := by rcases hc with rfl | rfl <;> rfl
    have h35 : decide (c ≠ 35) = true := by rcases hc with rfl | rfl <;> rfl
    rw [List.cons_append, show cdL (c :: (l ++ x)) = c :: cdL (l ++ x) by unfold cdL; rw [List.takeWhile_cons, if_pos h35], dpL, hs, if_neg (by decide)]
    exact ih fun y m => h y (List.mem_cons_of_mem _ m)
theorem ld_app {l : List Nat} (h : blankL l) {c : Nat} {w : List Nat} (hc : blC c = false) : ldL (l ++ c :: w) = l ∧ rsL (l ++ c :: w) = c :: w := by
  induction l with
  | nil => exact ⟨by rw [List.nil_append, ldL, List.takeWhile_cons, hc]; rfl, by rw [List.nil_append, rsL, List.dropWhile_cons, hc]; rfl⟩
  | cons a l ih =>
    have ha := blC_of (h a List.mem_cons_self)
    obtain ⟨i1, i2⟩ := ih fun y m => h y (List.mem_cons_of_mem _ m)
    unfold ldL rsL at *
    exact ⟨by rw [List.cons_append, List.takeWhile_cons, if_pos ha, i1], by rw [List.cons_append, List.dropWhile_cons, if_pos ha, i2]⟩
theorem pc_name {l w : List Nat} (hb : blankL l) (hl : l.length ≤ 1000) (hw : nameB w = true) : Pc (l ++ w) [(l, w)] := by
  unfold nameB at hw
  unfold Pc
  rw [rowsL_pre (blank10 hb)]
  cases e : rowsL w with
  | nil => rw [e] at hw; cases hw
  | cons w0 ws =>
    rw [e] at hw
    dsimp only at hw ⊢
    cases w0 with
    | nil => simp at hw
    | cons c w0 =>
      rw [Bool.and_eq_true, Bool.and_eq_true] at hw
      obtain ⟨⟨h1, h2⟩, h3⟩ := hw
      dsimp only at h1
      rw [Bool.and_eq_true] at h1
      obtain ⟨hc, h35⟩ := h1
      have hc2 : blC c = false := by simpa using hc
      obtain ⟨g1, g2⟩ := ld_app (l := l) hb (c := c) (w := w0) hc2
      refine ⟨fun r m => ?_, fun f n rest => ?_⟩
      · rcases List.mem_cons.mp m with rfl | m
        · rw [g1]; exact hl
        · exact of_decide_eq_true (List.all_eq_true.mp h2 r m)
      · rw [List.cons_append, goL, blank_dp hb]
        cases ed : dpL (cdL (c :: w0)) 0 with
        | none => rw [ed] at h3; cases h3
        | some d =>
          rw [ed] at h3
          dsimp only at h3 ⊢
          unfold stepL
          rw [if_neg (by decide), g1, g2, if_pos (show bgL (c :: w0) = true from h35), runW_go ws _ _ _ (of_decide_eq_true h3), List.length_cons, show n + 1 + ws.length = n + (ws.length + 1) by omega]
          rfl
def inS (l : List Nat) : List Str := (lnS l).map fun x => SX.S x.2.1
theorem page_ins {ps : List Pcs} (h : ∀ x ∈ ps, Pc x.1 x.2) (hc : (ps.flatMap fun x => x.2).length ≤ 20) : inS (TL.joinL [10] (ps.map fun x => x.1)) = (ps.flatMap fun x => x.2).map fun x => SX.S x.1 := by
  unfold inS
  rw [(page_lns h hc).2, ← pgE_snd ps 0, List.map_map]
  rfl
def FillOk (p : List Nat) : Prop := (p.all fun c => decide (c ≠ 10)) = true ∧ bgL (rsL p) = false ∧ p.length ≤ 100 ∧ (p.all fun c => decide (c < 0x110000)) = true
instance (w : List Nat) : Decidable (FillOk w) := inferInstanceAs (Decidable (_ ∧ _ ∧ _ ∧ _))
theorem FillOk.pc {p : List Nat} (h : FillOk p) : Pc p [] ∧ p.length ≤ 1100 ∧ ∀ c ∈ p, c < 0x110000 := by
  obtain ⟨h1, h2, h3, h4⟩ := h
  have hl : (ldL p).length ≤ p.length := (List.takeWhile_sublist _).length_le
  exact ⟨pc_fill (fun m => by have := of_decide_eq_true (List.all_eq_true.mp h1 10 m); exact this rfl) h2 (by omega), by omega, fun c m => of_decide_eq_true (List.all_eq_true.mp h4 c m)⟩
def FillD (d : PyData) : Prop := ∃ fs : List (List Nat), d = .list (fs.map fun p => .str (SX.S p)) ∧ (∀ p ∈ fs, FillOk p) ∧ fs.length ≤ 2
def NameOk (w : List Nat) : Prop := nameB w = true ∧ w.length ≤ 90 ∧ (w.all fun c => decide (c < 0x110000)) = true
instance (w : List Nat) : Decidable (NameOk w) := inferInstanceAs (Decidable (_ ∧ _ ∧ _))
theorem joinL_len : ∀ (ps : List (List Nat)), (TL.joinL [10] ps).length ≤ (ps.map List.length).sum + ps.length
  | [] => by simp [TL.joinL]
  | [p] => by simp [TL.joinL]
  | p :: q :: r => by
    have := joinL_len (q :: r)
    simp only [TL.joinL, List.length_append, List.length_cons, List.length_nil, List.map_cons, List.sum_cons] at this ⊢
    omega
theorem strOk_page {ps : List (List Nat)} (h : ∀ p ∈ ps, ∀ c ∈ p, c < 0x110000) : PyData.strOk (SX.S (TL.joinL [10] ps)) = true :=
  strOk_iff.mpr fun c m => strOk_joinL (a := [10]) (fun c m => by rw [List.mem_singleton.mp m]; decide) h c m
theorem page_all {ps : List Pcs} {zs : List Str} (h : ∀ x ∈ ps, Pc x.1 x.2) (he : (ps.flatMap fun x => x.2).map (fun x => SX.S x.1) = zs) (hl : ps.length ≤ 100) (hb : ∀ x ∈ ps, x.1.length ≤ 1100 ∧ ∀ c ∈ x.1, c < 0x110000) (hz : zs.length ≤ 20) :
    (SX.S (TL.joinL [10] (ps.map fun x => x.1))).length ≤ 200000 ∧ PyData.strOk (SX.S (TL.joinL [10] (ps.map fun x => x.1))) = true ∧ okTx (TL.joinL [10] (ps.map fun x => x.1)) ∧ inS (TL.joinL [10] (ps.map fun x => x.1)) = zs := by
  have hc : (ps.flatMap fun x => x.2).length ≤ 20 := by
    have := congrArg List.length he
    rw [List.length_map] at this; omega
  refine ⟨?_, strOk_page (fun p mp => ?_), (page_lns h hc).1, by rw [page_ins h hc, he]⟩
  · rw [SX.S_len]
    have h1 := joinL_len (ps.map fun x => x.1)
    have h2 := sum_le_nat (B := 1100) (l := (ps.map fun x => x.1).map List.length) (fun y my => by
      obtain ⟨a, ma, rfl⟩ := List.mem_map.mp my
      obtain ⟨x, mx, rfl⟩ := List.mem_map.mp ma
      exact (hb x mx).1)
    simp only [List.length_map] at h1 h2
    have h3 := Nat.mul_le_mul_left 1100 hl
    omega
  · obtain ⟨x, mx, rfl⟩ := List.mem_map.mp mp
    exact (hb x mx).2
end Pz
set_option maxRecDepth 100000
namespace Pz
open PySem PySem.Spec PyProof.Rows L2 TL
variable [PenC]
def spL : List Int → List Int → Nat
  | x :: a, y :: b => if x = y then spL a b + 1 else 0
  | _, _ => 0
def unL (a b : List Int) : List Int := ((List.range (min a.length b.length)).filter fun i => decide (a.getD i 0 ≠ b.getD i 0)).map fun i : Nat => (i : Int)
def vwN (zs : List Str) : Nat := (lonG (zs.map .str) + 1).toNat
def st2 (zs : List Str) : Nat := (stT (lvE zs) (vwN zs)).getD 1 0
def poD (zs : List Str) : Bool := decide ((vwD zs).length = 1) && decide ((lvE zs 1).length = zs.length)
def splD (zs : List Str) : PyData := if (vwD zs).length = 1 then .none else .tuple [.int (st2 zs : Nat), .int (spL (lvE zs 1) (lvE zs (st2 zs)) : Nat)]
end Pz
set_option maxRecDepth 100000
namespace Pz
open PySem PySem.Spec PyProof.Rows L2 TL
variable [PenC]
theorem rowsA_ne : ∀ (l acc : List Nat), rowsA acc l ≠ []
  | [], acc => by simp [rowsA]
  | c :: l, acc => by
    rw [rowsA]
    split
    · exact nofun
    · exact rowsA_ne l _
theorem joinL_cons {p : List Nat} {r : List (List Nat)} (h : r ≠ []) : TL.joinL [10] (p :: r) = p ++ 10 :: TL.joinL [10] r := by
  cases r with
  | nil => exact absurd rfl h
  | cons q r => simp [TL.joinL]
theorem joinL_rowsA : ∀ (l acc : List Nat), TL.joinL [10] (rowsA acc l) = acc ++ l
  | [], acc => by simp [rowsA, TL.joinL]
  | c :: l, acc => by
    rw [rowsA]
    by_cases h : c = 10
    · rw [if_pos h, joinL_cons (rowsA_ne l []), joinL_rowsA l [], h, List.nil_append]
    · rw [if_neg h, joinL_rowsA l _]; simp
theorem joinL_rows (l : List Nat) : TL.joinL [10] (rowsL l) = l := by
  unfold rowsL
  rw [joinL_rowsA]; rfl
def replL : List (List Nat) → List Ln → List (List Nat) → List (List Nat)
  | rows, (n, i, _) :: ls, o :: os => replL (rows.set n (o ++ (rows.getD n []).drop i.length)) ls os
  | rows, _, _ => rows
def PcW (x : Pcs) : Prop := Pc x.1 x.2 ∧ (x.2 = [] ∨ ∃ l w, x.2 = [(l, w)] ∧ x.1 = l ++ w ∧ blankL l ∧ l.length ≤ 1000 ∧ NameOk w)
def subP : List Pcs → List (List Nat) → List Pcs
  | (p, []) :: ps, os => (p, []) :: subP ps os
  | (p, (_, w) :: e) :: ps, o :: os => (o ++ w, [(o, w)]) :: subP ps os
  | ps, _ => ps
theorem repl_sub : ∀ (ps : List Pcs) (P : List (List Nat)) (os : List (List Nat)), (∀ x ∈ ps, PcW x) → (ps.flatMap fun x => x.2).length = os.length → (∀ o ∈ os, blankL o ∧ o.length ≤ 1000) →
    replL (P ++ ps.flatMap fun x => rowsL x.1) (pgE P.length ps) os = P ++ (subP ps os).flatMap fun x => rowsL x.1
  | [], P, os, _, h, _ => by
    have : os = [] := List.length_eq_zero_iff.mp (by simpa using h.symm)
    subst this
    simp [pgE, replL, subP]
  | (p, e) :: ps, P, os, hw, h, ho => by
    have hw2 : ∀ x ∈ ps, PcW x := fun x m => hw x (List.mem_cons_of_mem _ m)
    have h1 := hw (p, e) List.mem_cons_self
    rcases h1.2 with he | ⟨l, w, he, hp, hl, hl2, hn⟩
    · dsimp only at he
      subst he
      rw [pgE, List.map_nil, List.nil_append, subP, List.flatMap_cons, List.flatMap_cons, ← List.append_assoc, ← List.append_assoc]
      have := repl_sub ps (P ++ rowsL p) os hw2 (by simpa using h) ho
      rw [List.length_append] at this
      exact this
    · dsimp only at he hp
      subst he
      subst hp
      cases os with
      | nil => simp at h
      | cons o os =>
        have hob := ho o List.mem_cons_self
        rw [pgE, List.map_cons, List.map_nil, List.singleton_append, replL, subP, List.flatMap_cons, List.flatMap_cons]
        have er := rowsL_pre (blank10 hl) w
        have eo := rowsL_pre (blank10 hob.1) w
        cases ew : rowsL w with
        | nil => exact absurd ew (rowsA_ne _ _)
        | cons w0 ws =>
          rw [ew] at er eo
          dsimp only at er eo
          dsimp only
          rw [er, eo]
          have hg : (P ++ ((l ++ w0) :: ws ++ ps.flatMap fun x => rowsL x.1)).getD P.length [] = l ++ w0 := by
            rw [List.getD_eq_getElem?_getD, List.getElem?_append_right (Nat.le_refl _), Nat.sub_self]; rfl
          rw [hg, List.drop_left, List.set_append_right _ _ (Nat.le_refl _), Nat.sub_self, List.cons_append, List.set_cons_zero]
          have := repl_sub ps (P ++ ((o ++ w0) :: ws)) os hw2 (by simpa using h) (fun x m => ho x (List.mem_cons_of_mem _ m))
          rw [List.length_append] at this
          rw [show P.length + ((l ++ w0) :: ws).length = P.length + ((o ++ w0) :: ws).length by simp]
          rw [List.append_assoc, List.cons_append] at this
          rw [this, List.append_assoc]
theorem subP_ok : ∀ (ps : List Pcs) (os : List (List Nat)), (∀ x ∈ ps, PcW x) → (ps.flatMap fun x => x.2).length = os.length → (∀ o ∈ os, blankL o ∧ o.length ≤ 1000) →
    (∀ x ∈ subP ps os, PcW x) ∧ ((subP ps os).flatMap fun x => x.2).map (fun x => x.1) = os ∧ (subP ps os).length = ps.length ∧ ((subP ps os).flatMap fun x => x.2).map (fun x => x.2) = (ps.flatMap fun x => x.2).map fun x => x.2
  | [], os, _, h, _ => by
    have : os = [] := List.length_eq_zero_iff.mp (by simpa using h.symm)
    subst this
    exact ⟨(fun x m => by cases m), rfl, rfl, rfl⟩
  | (p, e) :: ps, os, hw, h, ho => by
    have hw2 : ∀ x ∈ ps, PcW x := fun x m => hw x (List.mem_cons_of_mem _ m)
    have h1 := hw (p, e) List.mem_cons_self
    rcases h1.2 with he | ⟨l, w, he, hp, hl, hl2, hn⟩
    · dsimp only at he
      subst he
      obtain ⟨g1, g2, g3, g4⟩ := subP_ok ps os hw2 (by simpa using h) ho
      rw [subP]
      refine ⟨fun x m => ?_, by simpa using g2, by simpa using g3, by simpa using g4⟩
      rcases List.mem_cons.mp m with rfl | m
      · exact h1
      · exact g1 x m
    · dsimp only at he hp
      subst he
      subst hp
      cases os with
      | nil => simp at h
      | cons o os =>
        have hob := ho o List.mem_cons_self
        obtain ⟨g1, g2, g3, g4⟩ := subP_ok ps os hw2 (by simpa using h) (fun x m => ho x (List.mem_cons_of_mem _ m))
        rw [subP]
        refine ⟨fun x m => ?_, by simpa using g2, by simpa using g3, by simpa using g4⟩
        rcases List.mem_cons.mp m with rfl | m
        · exact ⟨pc_name hob.1 hob.2 hn.1, .inr ⟨o, w, rfl, rfl, hob.1, hob.2, hn⟩⟩
        · exact g1 x m
theorem page_repl {ps : List Pcs} {os : List (List Nat)} (hw : ∀ x ∈ ps, PcW x) (h : (ps.flatMap fun x => x.2).length = os.length) (hc : os.length ≤ 20) (ho : ∀ o ∈ os, blankL o ∧ o.length ≤ 1000) :
    TL.joinL [10] (replL (rowsL (TL.joinL [10] (ps.map fun x => x.1))) (lnS (TL.joinL [10] (ps.map fun x => x.1))) os) = TL.joinL [10] ((subP ps os).map fun x => x.1) := by
  have h1 := page_lns (ps := ps) (fun x m => (hw x m).1) (by omega)
  rw [h1.2]
  by_cases hn : ps = []
  · subst hn
    have : os = [] := List.length_eq_zero_iff.mp (by simpa using h.symm)
    subst this
    rfl
  · rw [rows_join (by simpa using hn), List.flatMap_map]
    have h2 := repl_sub ps [] os hw h ho
    rw [List.nil_append, List.nil_append, List.length_nil] at h2
    rw [h2]
    have hn2 : (subP ps os).map (fun x => x.1) ≠ [] := by
      intro z
      have := congrArg List.length z
      rw [List.length_map, (subP_ok ps os hw h ho).2.2.1] at this
      exact hn (List.length_eq_zero_iff.mp (by simpa using this))
    have h3 := rows_join hn2
    rw [List.flatMap_map] at h3
    rw [← h3, joinL_rows]
def ChT (f : Nat → List Int) : List Nat → Prop
  | s :: t :: r => (s < t ∧ f s ≠ f t ∧ ∀ w, s ≤ w → w < t → f w = f s) ∧ ChT f (t :: r)
  | _ => True
theorem subP_mem : ∀ (ps : List Pcs) (os : List (List Nat)), (∀ x ∈ ps, PcW x) → ∀ x ∈ subP ps os, x ∈ ps ∨ ∃ o w, x = (o ++ w, [(o, w)]) ∧ o ∈ os ∧ NameOk w
  | [], os, _, x, m => by simp [subP] at m
  | (p, e) :: ps, os, hw, x, m => by
    have hw2 : ∀ x ∈ ps, PcW x := fun x m => hw x (List.mem_cons_of_mem _ m)
    rcases (hw (p, e) List.mem_cons_self).2 with he | ⟨l, w, he, hp, hl, hl2, hn⟩
    · dsimp only at he
      subst he
      rw [subP] at m
      rcases List.mem_cons.mp m with rfl | m
      · exact .inl List.mem_cons_self
      · rcases subP_mem ps os hw2 x m with h | ⟨o, w, h1, h2, h3⟩
        · exact .inl (List.mem_cons_of_mem _ h)
        · exact .inr ⟨o, w, h1, h2, h3⟩
    · dsimp only at he hp
      subst he
      cases os with
      | nil => exact .inl (by simpa [subP] using m)
      | cons o os =>
        rw [subP] at m
        rcases List.mem_cons.mp m with rfl | m
        · exact .inr ⟨o, w, rfl, List.mem_cons_self, hn⟩
        · rcases subP_mem ps os hw2 x m with h | ⟨o, w, h1, h2, h3⟩
          · exact .inl (List.mem_cons_of_mem _ h)
          · exact .inr ⟨o, w, h1, List.mem_cons_of_mem _ h2, h3⟩
theorem ow_ok {o w : List Nat} (ho : blankL o ∧ o.length ≤ 1000) (hn : NameOk w) : PcW (o ++ w, [(o, w)]) ∧ (o ++ w).length ≤ 1100 ∧ ∀ c ∈ o ++ w, c < 0x110000 := by
  refine ⟨⟨pc_name ho.1 ho.2 hn.1, .inr ⟨o, w, rfl, rfl, ho.1, ho.2, hn⟩⟩, by rw [List.length_append]; have := hn.2.1; omega, fun c m => ?_⟩
  rcases List.mem_append.mp m with m | m
  · rcases ho.1 c m with rfl | rfl <;> decide
  · exact of_decide_eq_true (List.all_eq_true.mp hn.2.2 c m)
theorem page_sub {ps : List Pcs} {bs : List (List Nat)} (hw : ∀ x ∈ ps, PcW x) (h : (ps.flatMap fun x => x.2).length = bs.length) (hc : bs.length ≤ 20) (ho : ∀ o ∈ bs, blankL o ∧ o.length ≤ 1000) (hl : ps.length ≤ 100) (hb : ∀ x ∈ ps, x.1.length ≤ 1100 ∧ ∀ c ∈ x.1, c < 0x110000) :
    (SX.S (TL.joinL [10] ((subP ps bs).map fun x => x.1))).length ≤ 200000 ∧ PyData.strOk (SX.S (TL.joinL [10] ((subP ps bs).map fun x => x.1))) = true ∧ okTx (TL.joinL [10] ((subP ps bs).map fun x => x.1)) ∧ inS (TL.joinL [10] ((subP ps bs).map fun x => x.1)) = bs.map SX.S := by
  obtain ⟨g1, g2, g3, _⟩ := subP_ok ps bs hw h ho
  refine page_all (fun x m => (g1 x m).1) ?_ (by omega) (fun x m => ?_) (by rw [List.length_map]; exact hc)
  · conv => rhs; rw [← g2]
    rw [List.map_map]; rfl
  · rcases subP_mem ps bs hw x m with h | ⟨o, w, rfl, mo, hn⟩
    · exact hb x h
    · exact (ow_ok (ho o mo) hn).2
def catD (d : PyData) : PyData := match d with
  | .tuple [.str a, .str b] => .str (a ++ b)
  | d => d
def bkD (d : PyData) : PyData := match d with
  | .str z => .str (SX.S (indL (runsL (tl z)).reverse (tailL (tl z))))
  | d => d
end Pz
set_option maxRecDepth 100000
namespace Pz
open PySem PySem.Spec PyProof.Rows L2 TL PySem.W
variable [PenC]
abbrev Sta := List (List Nat)
def staD (s : Sta) : PyData := .tuple (s.map fun l => .str (SX.S l))
def keS (s : Sta) : List L2.Key := s.map fun l => .inr (SX.S l)
theorem SXinj {a b : List Nat} (h : SX.S a = SX.S b) : a = b := by
  have := congrArg tl h
  rwa [tl_S, tl_S] at this
theorem keS_inj {a b : Sta} (h : keS a = keS b) : a = b := (List.map_inj_right (fun x y e => SXinj (Sum.inr.inj e))).mp h
theorem staD_inj {a b : Sta} (h : staD a = staD b) : a = b := (List.map_inj_right (fun x y e => SXinj (PyData.str.inj e))).mp (PyData.tuple.inj h)
theorem keysL_st (s : Sta) : keysL (s.map fun l => PyData.str (SX.S l)) = some (keS s) := by
  have := keysL_keyD (keS s)
  unfold keS at this ⊢
  rwa [List.map_map] at this
theorem kyT_keS (s : Sta) : kyT (keS s) = staD s := by unfold kyT keS staD; rw [List.map_map]; rfl
theorem ke_decS {a b : Sta} : decide (keS a = keS b) = decide (a = b) := by
  by_cases h : a = b
  · subst h; simp
  · rw [decide_eq_false h, decide_eq_false fun z => h (keS_inj z)]
def leS (a b : Sta) : Bool := !decide (b < a)
theorem leS_iff {a b : Sta} : leS a b = true ↔ a ≤ b := by
  unfold leS
  rw [Bool.not_eq_true', decide_eq_false_iff_not]
  exact List.not_lt_iff_ge
theorem leS_trans (a b c : Sta) (h1 : leS a b = true) (h2 : leS b c = true) : leS a c = true := leS_iff.mpr (List.le_trans (leS_iff.mp h1) (leS_iff.mp h2))
theorem leS_total (a b : Sta) : (leS a b || leS b a) = true := by
  rw [Bool.or_eq_true, leS_iff, leS_iff]
  exact List.le_total _ _
theorem leS_anti {a b : Sta} (h1 : leS a b = true) (h2 : leS b a = true) : a = b := List.le_antisymm (leS_iff.mp h1) (leS_iff.mp h2)
def srtS (L : List Sta) : List Sta := L.mergeSort leS
theorem srtS_perm (L : List Sta) : (srtS L).Perm L := List.mergeSort_perm _ _
theorem srtS_eq {L M : List Sta} (h : L.Perm M) : srtS L = srtS M := by
  refine List.Perm.eq_of_pairwise (le := fun a b => leS a b = true) (fun a b _ _ h1 h2 => leS_anti h1 h2) (List.pairwise_mergeSort leS_trans leS_total L) (List.pairwise_mergeSort leS_trans leS_total M) ?_
  exact (srtS_perm L).trans (h.trans (srtS_perm M).symm)
theorem rowLt_strs : ∀ s t : Sta, rowLt (s.map fun l => PyData.str (SX.S l)) (t.map fun l => PyData.str (SX.S l)) = decide (s < t)
  | [], [] => by
    have e : rowLt [] [] = false := lex_irrefl _
    simp [e]
  | [], y :: t => by
    have e : rowLt [] (PyData.str (SX.S y) :: t.map fun l => PyData.str (SX.S l)) = true := by
      unfold rowLt
      rw [toks_all_cons]
      simp only [keyToksAll]
      rw [lex_diff (O := itemOrd) (by simp)]
      rfl
    simpa using e
  | x :: s, [] => by
    have e : rowLt (PyData.str (SX.S x) :: s.map fun l => PyData.str (SX.S l)) [] = false := by
      unfold rowLt
      rw [toks_all_cons]
      simp only [keyToksAll]
      rw [lex_diff (O := itemOrd) (by simp)]
      rfl
    simpa using e
  | x :: s, y :: t => by
    have e : rowLt (PyData.str (SX.S x) :: s.map fun l => PyData.str (SX.S l)) (PyData.str (SX.S y) :: t.map fun l => PyData.str (SX.S l)) = if x = y then rowLt (s.map fun l => PyData.str (SX.S l)) (t.map fun l => PyData.str (SX.S l)) else decide (x < y) := by
      unfold rowLt
      rw [dataLt_cons (by simp [alike]), dataLt_str]
      rw [eqv_str]
      by_cases h : x = y
      · subst h; simp
      · rw [if_neg h, if_neg (by rw [decide_eq_false fun z => h (SXinj z)]; decide)]
    show rowLt (PyData.str (SX.S x) :: s.map fun l => PyData.str (SX.S l)) (PyData.str (SX.S y) :: t.map fun l => PyData.str (SX.S l)) = _
    rw [e]
    by_cases h : x = y
    · rw [if_pos h, rowLt_strs s t]
      simp [h, List.cons_lt_cons_iff]
    · rw [if_neg h]
      simp [h, List.cons_lt_cons_iff]
theorem dataLe_st (a b : Sta) : leS a b = dataLe false id (staD a) (staD b) := by
  rw [dataLe_eq]
  show _ = !dataLt (id (staD b)) (id (staD a))
  rw [id, id, staD, staD, dataLt_tuple]
  have := rowLt_strs b a
  unfold rowLt at this
  rw [this]
  rfl
theorem dsort_st (L : List Sta) : dsort (L.map staD) = (srtS L).map staD := by
  rw [dsort, srtS]
  exact (List.map_mergeSort fun a _ b _ => dataLe_st a b).symm
theorem alike_strs : ∀ s t : Sta, alikeAll (s.map fun l => PyData.str (SX.S l)) (t.map fun l => PyData.str (SX.S l)) = true
  | [], [] => by simp [alikeAll]
  | [], _ :: _ => by simp [alikeAll]
  | _ :: _, [] => by simp [alikeAll]
  | x :: s, y :: t => by
    have ih := alike_strs s t
    simp [alikeAll, alike, ih]
theorem sortS_ok {L : List Sta} (h : ∀ s ∈ L, s ≠ []) : AllAlike (L.map staD) ∧ Sortable (L.map staD) ∧ ∀ d ∈ L.map staD, d.depth ≤ 50 := by
  refine ⟨fun d hd e he => ?_, .inl fun d hd => ?_, fun d hd => ?_⟩
  · obtain ⟨a, _, rfl⟩ := List.mem_map.mp hd
    obtain ⟨b, _, rfl⟩ := List.mem_map.mp he
    unfold staD
    rw [alike]; exact alike_strs _ _
  · obtain ⟨a, ma, rfl⟩ := List.mem_map.mp hd
    cases a with
    | nil => exact absurd rfl (h _ ma)
    | cons x r => exact ⟨_, _, rfl⟩
  · obtain ⟨a, _, rfl⟩ := List.mem_map.mp hd
    have : ∀ s : Sta, PyData.depthAll (s.map fun l => PyData.str (SX.S l)) = 0 := fun s => by
      induction s with
      | nil => simp [PyData.depthAll]
      | cons x s ih => simp [PyData.depthAll, PyData.depth, ih]
    unfold staD
    rw [PyData.depth, this]
    decide
def pcN (w : Nat) (l : List Nat) : Nat := colN w (runsL l) (tailL l)
def tbX (x : Bool) (w : Nat) (l : List Nat) : Nat × Nat := if x then (0, pcN w l) else (pcN w l / w, pcN w l % w)
def mv1 (x : Bool) (w : Nat) (l : List Nat) : List Nat := List.replicate (tbX x w l).1 9 ++ List.replicate (tbX x w l).2 32
def fitS (x : Bool) (w m : Nat) (s : Sta) : Bool := s.all fun l => decide ((tbX x w l).1 + (tbX x w l).2 ≤ m)
def mvS (x : Bool) (w m : Nat) (s : Sta) : Option Sta := if fitS x w m s then some (s.map (mv1 x w)) else none
def wdX (x : Bool) : Str := if x then Str.ofString "expand" else Str.ofString "collapse"
def opX (x : Bool) (w : Nat) : PyData := .tuple [.str (wdX x), .int (w : Nat)]
def mvW (x : Bool) (m : Nat) (s : Sta) (ws : List Nat) : List (PyData × Sta) := ws.filterMap fun w => (mvS x w m s).map fun t => (opX x w, t)
def mvP (ws : List Nat) (m : Nat) (s : Sta) : List (PyData × Sta) := mvW true m s ws ++ mvW false m s ws
def mvL (ws : List Nat) (m : Nat) (s : Sta) : List (PyData × Sta) := ws.flatMap fun w => mvW true m s [w] ++ mvW false m s [w]
def mvD (L : List (PyData × Sta)) : List PyData := L.map fun e => .tuple [e.1, staD e.2]
theorem mvW_mem {x : Bool} {m : Nat} {s : Sta} {ws : List Nat} {e : PyData × Sta} : e ∈ mvW x m s ws ↔ ∃ w ∈ ws, ∃ t, mvS x w m s = some t ∧ e = (opX x w, t) := by
  unfold mvW
  rw [List.mem_filterMap]
  constructor
  · rintro ⟨w, mw, h⟩
    obtain ⟨t, ht, e⟩ := Option.map_eq_some_iff.mp h
    exact ⟨w, mw, t, ht, e.symm⟩
  · rintro ⟨w, mw, t, ht, e⟩
    exact ⟨w, mw, by rw [ht, e]; rfl⟩
theorem mvL_mem {ws : List Nat} {m : Nat} {s : Sta} {e : PyData × Sta} : e ∈ mvL ws m s ↔ e ∈ mvP ws m s := by
  unfold mvL mvP
  rw [List.mem_flatMap, List.mem_append]
  constructor
  · rintro ⟨w, mw, h⟩
    rcases List.mem_append.mp h with h | h
    · obtain ⟨v, mv, t, ht, e⟩ := mvW_mem.mp h
      rw [List.mem_singleton.mp mv] at ht e
      exact .inl (mvW_mem.mpr ⟨w, mw, t, ht, e⟩)
    · obtain ⟨v, mv, t, ht, e⟩ := mvW_mem.mp h
      rw [List.mem_singleton.mp mv] at ht e
      exact .inr (mvW_mem.mpr ⟨w, mw, t, ht, e⟩)
  · rintro (h | h)
    · obtain ⟨w, mw, t, ht, e⟩ := mvW_mem.mp h
      exact ⟨w, mw, List.mem_append_left _ (mvW_mem.mpr ⟨w, List.mem_singleton.mpr rfl, t, ht, e⟩)⟩
    · obtain ⟨w, mw, t, ht, e⟩ := mvW_mem.mp h
      exact ⟨w, mw, List.mem_append_right _ (mvW_mem.mpr ⟨w, List.mem_singleton.mpr rfl, t, ht, e⟩)⟩
def StOk (k m : Nat) (s : Sta) : Prop := s.length = k ∧ ∀ l ∈ s, blankL l ∧ l.length ≤ m
theorem mvS_ok {x : Bool} {w m k M : Nat} {s t : Sta} (hM : m ≤ M) (h : s.length = k) (e : mvS x w m s = some t) : StOk k M t := by
  unfold mvS at e
  split at e
  · rename_i hf
    cases e
    refine ⟨by rw [List.length_map, h], fun l ml => ?_⟩
    obtain ⟨a, ma, rfl⟩ := List.mem_map.mp ml
    have := of_decide_eq_true (List.all_eq_true.mp hf a ma)
    refine ⟨fun c mc => ?_, ?_⟩
    · unfold mv1 at mc
      rcases List.mem_append.mp mc with mc | mc
      · exact .inr (List.mem_replicate.mp mc).2
      · exact .inl (List.mem_replicate.mp mc).2
    · unfold mv1
      rw [List.length_append, List.length_replicate, List.length_replicate]
      omega
  · cases e
theorem mvP_ok {ws : List Nat} {m k M : Nat} {s : Sta} (hM : m ≤ M) (h : s.length = k) : ∀ e ∈ mvP ws m s, StOk k M e.2 := fun e me => by
  unfold mvP at me
  rcases List.mem_append.mp me with me | me
  all_goals
    obtain ⟨w, _, t, ht, rfl⟩ := mvW_mem.mp me
    exact mvS_ok hM h ht
theorem mvP_len (ws : List Nat) (m : Nat) (s : Sta) : (mvP ws m s).length ≤ 2 * ws.length := by
  unfold mvP mvW
  have h1 := List.length_filterMap_le (fun w => (mvS true w m s).map fun t => (opX true w, t)) ws
  have h2 := List.length_filterMap_le (fun w => (mvS false w m s).map fun t => (opX false w, t)) ws
  rw [List.length_append]
  omega
theorem pc_short {w : Nat} (hw : 0 < w) (l : List Nat) : pcN w l / w + pcN w l % w ≤ l.length := by
  have := (col_short (z := SX.S l) (w := (w : Int)) (by omega)).1
  have e : colZ w (SX.S l) = ((pcN w l : Nat) : Int) := by
    unfold colZ pcN
    rw [show tl (SX.S l) = l from tl_S l, colR_N hw]
  rw [e, SX.S_len] at this
  have e1 := Int.natCast_ediv (pcN w l) w
  have e2 := Int.natCast_emod (pcN w l) w
  omega
theorem pc_bd {w : Nat} (hw : 0 < w) (hw2 : w ≤ 1000) {l : List Nat} (hl : l.length ≤ 1000) : pcN w l ≤ 1000000 := by
  have h1 := pc_short hw l
  have h2 := Nat.div_add_mod (pcN w l) w
  have h3 : w * (pcN w l / w) ≤ 1000 * (pcN w l / w) := Nat.mul_le_mul_right _ hw2
  omega
theorem mul_ts (a b : Nat) : Txt.mul (Str.ofString "\t") (a : Nat) ++ Txt.mul (Str.ofString " ") (b : Nat) = SX.S (List.replicate a 9 ++ List.replicate b 32) :=
  S_of_tl (by rw [tl_add, tl_mul1 tl_tab1, tl_mul1 tl_sp1, Int.toNat_natCast, Int.toNat_natCast])
theorem not_fit {x : Bool} {w m : Nat} {s : Sta} {l : List Nat} (ml : l ∈ s) (h : m < (tbX x w l).1 + (tbX x w l).2) : mvS x w m s = none := by
  unfold mvS
  rw [if_neg]
  intro hf
  have := of_decide_eq_true (List.all_eq_true.mp hf l ml)
  omega
def mvF (x : Bool) (m : Nat) (s : Sta) (d : PyData) : PyData := .tuple [.tuple [.str (wdX x), d], match mvS x (toN d) m s with | some t => staD t | none => .none]
def mvG (d : PyData) : Option PyData := match d with
  | .tuple [_, .none] => none
  | d => some d
theorem mvG_ws (x : Bool) (m : Nat) (s : Sta) : ∀ ws : List PyData, Ints (fun w => 1 ≤ w ∧ w ≤ 1000) ws → (ws.map (mvF x m s)).filterMap mvG = mvD (mvW x m s (ws.map toN))
  | [], _ => rfl
  | d :: ws, h => by
    have ih := mvG_ws x m s ws h.tail
    obtain ⟨w, rfl, hw⟩ := h d List.mem_cons_self
    obtain ⟨w, rfl⟩ : ∃ k : Nat, w = k := ⟨w.toNat, by omega⟩
    unfold mvW mvD at ih ⊢
    rw [List.map_cons, List.map_cons, show toN (.int (w : Int)) = w from Int.toNat_natCast w]
    cases e : mvS x w m s with
    | none =>
      have e1 : mvG (mvF x m s (.int (w : Int))) = none := by
        unfold mvF
        rw [show toN (.int (w : Int)) = w from Int.toNat_natCast w, e]
        rfl
      rw [List.filterMap_cons_none e1, List.filterMap_cons_none (by rw [e]; rfl)]
      exact ih
    | some t =>
      have e1 : mvG (mvF x m s (.int (w : Int))) = some (.tuple [opX x w, staD t]) := by
        unfold mvF
        rw [show toN (.int (w : Int)) = w from Int.toNat_natCast w, e]
        rfl
      rw [List.filterMap_cons_some e1, List.filterMap_cons_some (b := (opX x w, t)) (by rw [e]; rfl), List.map_cons, ih]
theorem mvD_app (a b : List (PyData × Sta)) : mvD (a ++ b) = mvD a ++ mvD b := List.map_append ..
theorem wdX_or (x : Bool) : wdX x = Str.ofString "expand" ∨ wdX x = Str.ofString "collapse" := by cases x; exact .inr rfl; exact .inl rfl
theorem wdX_dec (x : Bool) : decide (wdX x = Str.ofString "expand") = x := by
  cases x
  · show decide (Str.ofString "collapse" = Str.ofString "expand") = false
    have ne : PyData.eqv (.str (Str.ofString "collapse")) (.str (Str.ofString "expand")) = false := by decide +kernel
    rw [eqv_str] at ne
    exact ne
  · exact decide_eq_true rfl
theorem mvW_len (x : Bool) (m : Nat) (s : Sta) (ws : List Nat) : (mvW x m s ws).length ≤ ws.length := List.length_filterMap_le _ _
theorem mvD_len (L : List (PyData × Sta)) : (mvD L).length = L.length := List.length_map ..
theorem fmW_len (m : Nat) (s : Sta) (ws : List Nat) : ∀ u : List Bool, (u.flatMap fun x => mvW x m s ws).length ≤ ws.length * u.length
  | [] => Nat.zero_le _
  | x :: u => by
    have := fmW_len m s ws u
    have h := mvW_len x m s ws
    rw [List.flatMap_cons, List.length_append, List.length_cons, Nat.mul_succ]
    omega
theorem lmax_iff {l : List Int} {m : Int} (h : 0 < l.length) : lmax l ≤ m ↔ ∀ y ∈ l, y ≤ m := by
  obtain ⟨h1, h2⟩ := lmax_mem h
  exact ⟨fun k y my => Int.le_trans (h2 y my) k, fun k => k _ h1⟩
theorem mvL_snoc (u : List Nat) (w m : Nat) (s : Sta) : mvL (u ++ [w]) m s = mvL u m s ++ (mvW true m s [w] ++ mvW false m s [w]) := by
  unfold mvL
  rw [List.flatMap_append]
  simp
theorem mvL_len (m : Nat) (s : Sta) : ∀ u : List Nat, (mvL u m s).length ≤ 2 * u.length
  | [] => Nat.zero_le _
  | w :: u => by
    have := mvL_len m s u
    have h1 := mvW_len true m s [w]
    have h2 := mvW_len false m s [w]
    unfold mvL at this ⊢
    rw [List.length_singleton] at h1 h2
    rw [List.flatMap_cons, List.length_append, List.length_append, List.length_cons]
    omega
theorem ints_nat : ∀ {ws : List PyData}, Ints (fun w => 1 ≤ w ∧ w ≤ 1000) ws → ws = (ws.map toN).map fun n : Nat => PyData.int (n : Int)
  | [], _ => rfl
  | d :: ws, h => by
    have ih := ints_nat h.tail
    obtain ⟨w, rfl, hw⟩ := h d List.mem_cons_self
    rw [List.map_cons, List.map_cons, ← ih]
    congr 2
    show w = ((w.toNat : Nat) : Int)
    omega
def plD (w : Nat) (S : Sta) : List PyData := (S.map (pcN w)).map fun n : Nat => PyData.int (n : Int)
theorem plD_eq (w : Nat) (S : Sta) : (S.map fun l => PyData.str (SX.S l)).map (fun d => PyData.int ((pcN w (tl (toZ d)) : Nat) : Int)) = plD w S := by
  unfold plD
  rw [List.map_map, List.map_map]
  rfl
theorem as_nats (L : List Nat) : asInts (L.map fun n : Nat => PyData.int (n : Int)) = some (L.map fun n : Nat => (n : Int)) := by
  have h : Ints (fun _ => True) (L.map fun n : Nat => PyData.int (n : Int)) := fun d m => by
    obtain ⟨n, _, rfl⟩ := List.mem_map.mp m
    exact ⟨_, rfl, trivial⟩
  rw [h.asInts, List.map_map]
  rfl
theorem fit_max {x : Bool} {w m : Nat} {S : Sta} (h : 0 < S.length) : lmax ((S.map fun l => (tbX x w l).1 + (tbX x w l).2).map fun n : Nat => (n : Int)) ≤ (m : Int) ↔ fitS x w m S = true := by
  rw [lmax_iff (by rw [List.length_map, List.length_map]; exact h)]
  unfold fitS
  rw [List.all_eq_true]
  constructor
  · intro k l ml
    have := k _ (List.mem_map.mpr ⟨_, List.mem_map.mpr ⟨l, ml, rfl⟩, rfl⟩)
    exact decide_eq_true (by omega)
  · intro k y my
    obtain ⟨n, mn, rfl⟩ := List.mem_map.mp my
    obtain ⟨l, ml, rfl⟩ := List.mem_map.mp mn
    have := of_decide_eq_true (k l ml)
    omega
theorem mvW_one (x : Bool) (w m : Nat) (S : Sta) : mvW x m S [w] = if fitS x w m S = true then [(opX x w, S.map (mv1 x w))] else [] := by
  unfold mvW mvS
  by_cases h : fitS x w m S = true
  · simp [h]
  · simp [h]
end Pz
set_option maxRecDepth 100000
namespace Pz
open PySem PySem.Spec PyProof.Rows L2 TL PySem.W
variable [PenC]
def sucS (ws : List Nat) (m : Nat) (s : Sta) : List Sta := (mvP ws m s).map (·.2)
def addS (A : List Sta × List Sta) (t : Sta) : List Sta × List Sta := if t ∈ A.1 then A else (A.1 ++ [t], A.2 ++ [t])
def newS (K E : List Sta) : List Sta := (E.foldl addS (K, [])).2
theorem addS_spec : ∀ (E : List Sta) (K L : List Sta), ∃ D : List Sta, E.foldl addS (K, L) = (K ++ D, L ++ D) ∧ D.Nodup ∧ (∀ t, t ∈ D ↔ t ∈ E ∧ t ∉ K)
  | [], K, L => ⟨[], by simp, .nil, fun t => by simp⟩
  | e :: E, K, L => by
    rw [List.foldl_cons]
    by_cases h : e ∈ K
    · have e1 : addS (K, L) e = (K, L) := if_pos h
      rw [e1]
      obtain ⟨D, d1, d2, d3⟩ := addS_spec E K L
      refine ⟨D, d1, d2, fun t => ?_⟩
      rw [d3, List.mem_cons]
      constructor
      · rintro ⟨a, b⟩; exact ⟨.inr a, b⟩
      · rintro ⟨a | a, b⟩
        · rw [a] at b; exact absurd h b
        · exact ⟨a, b⟩
    · have e1 : addS (K, L) e = (K ++ [e], L ++ [e]) := if_neg h
      rw [e1]
      obtain ⟨D, d1, d2, d3⟩ := addS_spec E (K ++ [e]) (L ++ [e])
      refine ⟨e :: D, by rw [d1, List.append_assoc, List.append_assoc]; rfl, List.nodup_cons.mpr ⟨fun m => ?_, d2⟩, fun t => ?_⟩
      · exact ((d3 e).mp m).2 (List.mem_append_right _ (List.mem_singleton.mpr rfl))
      · rw [List.mem_cons, d3, List.mem_cons, List.mem_append, List.mem_singleton]
        constructor
        · rintro (a | ⟨a, b⟩)
          · rw [a]; exact ⟨.inl rfl, h⟩
          · exact ⟨.inr a, fun z => b (.inl z)⟩
        · rintro ⟨a | a, b⟩
          · exact .inl a
          · by_cases z : t = e
            · exact .inl z
            · exact .inr ⟨a, fun y => y.elim b z⟩
theorem newS_eq (K E L : List Sta) : E.foldl addS (K, L) = (K ++ newS K E, L ++ newS K E) := by
  obtain ⟨D, d1, d2, d3⟩ := addS_spec E K L
  obtain ⟨D', e1, e2, e3⟩ := addS_spec E K []
  have en : newS K E = D' := by unfold newS; rw [e1]; rfl
  have key : ∀ (E K L M : List Sta), ∃ D, E.foldl addS (K, L) = (K ++ D, L ++ D) ∧ E.foldl addS (K, M) = (K ++ D, M ++ D) := by
    intro E
    induction E with
    | nil => intro K L M; exact ⟨[], by simp, by simp⟩
    | cons e E ih =>
      intro K L M
      rw [List.foldl_cons, List.foldl_cons]
      by_cases h : e ∈ K
      · have a1 : addS (K, L) e = (K, L) := if_pos h
        have a2 : addS (K, M) e = (K, M) := if_pos h
        rw [a1, a2]
        exact ih K L M
      · have a1 : addS (K, L) e = (K ++ [e], L ++ [e]) := if_neg h
        have a2 : addS (K, M) e = (K ++ [e], M ++ [e]) := if_neg h
        rw [a1, a2]
        obtain ⟨D, x1, x2⟩ := ih (K ++ [e]) (L ++ [e]) (M ++ [e])
        exact ⟨e :: D, by rw [x1, List.append_assoc, List.append_assoc]; rfl, by rw [x2, List.append_assoc, List.append_assoc]; rfl⟩
  obtain ⟨D2, x1, x2⟩ := key E K L []
  have : newS K E = D2 := by unfold newS; rw [x2]; rfl
  rw [this, x1]
theorem newS_spec (K E : List Sta) : (newS K E).Nodup ∧ ∀ t, t ∈ newS K E ↔ t ∈ E ∧ t ∉ K := by
  obtain ⟨D', e1, e2, e3⟩ := addS_spec E K []
  have en : newS K E = D' := by unfold newS; rw [e1]; rfl
  rw [en]
  exact ⟨e2, e3⟩
theorem newS_perm {K K' E E' : List Sta} (hK : ∀ t, t ∈ K ↔ t ∈ K') (hE : ∀ t, t ∈ E ↔ t ∈ E') : (newS K E).Perm (newS K' E') := by
  obtain ⟨a1, a2⟩ := newS_spec K E
  obtain ⟨b1, b2⟩ := newS_spec K' E'
  refine (List.perm_ext_iff_of_nodup a1 b1).mpr fun t => ?_
  rw [a2, b2, hK, hE]
theorem newS_snoc (K E : List Sta) (t : Sta) : (K ++ newS K (E ++ [t]), newS K (E ++ [t])) = addS (K ++ newS K E, newS K E) t := by
  have h1 := newS_eq K (E ++ [t]) []
  have h2 := newS_eq K E []
  rw [List.foldl_append, h2] at h1
  simp only [List.nil_append, List.foldl_cons, List.foldl_nil] at h1
  exact h1.symm
theorem addS_len : ∀ (E : List Sta) (K L : List Sta), (E.foldl addS (K, L)).2.length ≤ L.length + E.length
  | [], K, L => Nat.le_refl _
  | e :: E, K, L => by
    rw [List.foldl_cons, List.length_cons]
    by_cases h : e ∈ K
    · rw [show addS (K, L) e = (K, L) from if_pos h]
      have := addS_len E K L
      omega
    · rw [show addS (K, L) e = (K ++ [e], L ++ [e]) from if_neg h]
      have := addS_len E (K ++ [e]) (L ++ [e])
      rw [List.length_append, List.length_singleton] at this
      omega
theorem newS_len (K E : List Sta) : (newS K E).length ≤ E.length := by
  have := addS_len E K []
  rw [List.length_nil, Nat.zero_add] at this
  exact this
theorem srtS_nil : srtS [] = [] := List.perm_nil.mp (srtS_perm [])
def bfK (ws : List Nat) (m : Nat) (s : Sta) : Nat → List Sta × List Sta
  | 0 => ([s], [s])
  | n + 1 =>
    let A := bfK ws m s n
    (A.1 ++ newS A.1 (A.2.flatMap (sucS ws m)), srtS (newS A.1 (A.2.flatMap (sucS ws m))))
def knS (ws : List Nat) (m : Nat) (s : Sta) (n : Nat) : List Sta := (bfK ws m s n).1
def lyS (ws : List Nat) (m : Nat) (s : Sta) (n : Nat) : List Sta := (bfK ws m s n).2
theorem knS_succ (ws : List Nat) (m : Nat) (s : Sta) (n : Nat) : knS ws m s (n + 1) = knS ws m s n ++ newS (knS ws m s n) ((lyS ws m s n).flatMap (sucS ws m)) := rfl
theorem lyS_succ (ws : List Nat) (m : Nat) (s : Sta) (n : Nat) : lyS ws m s (n + 1) = srtS (newS (knS ws m s n) ((lyS ws m s n).flatMap (sucS ws m))) := rfl
theorem knS_nd (ws : List Nat) (m : Nat) (s : Sta) : ∀ n, (knS ws m s n).Nodup
  | 0 => by show [s].Nodup; simp
  | n + 1 => by
    rw [knS_succ]
    obtain ⟨h1, h2⟩ := newS_spec (knS ws m s n) ((lyS ws m s n).flatMap (sucS ws m))
    exact List.nodup_append.mpr ⟨knS_nd ws m s n, h1, fun a ma b mb e => ((h2 b).mp mb).2 (e ▸ ma)⟩
theorem lyS_sub (ws : List Nat) (m : Nat) (s : Sta) : ∀ n, ∀ t ∈ lyS ws m s n, t ∈ knS ws m s n
  | 0 => fun t h => h
  | n + 1 => fun t h => by
    rw [knS_succ]
    rw [lyS_succ] at h
    exact List.mem_append_right _ ((srtS_perm _).mem_iff.mp h)
theorem lyS_len (ws : List Nat) (m : Nat) (s : Sta) (n : Nat) : (lyS ws m s n).length ≤ (knS ws m s n).length := by
  cases n with
  | zero => exact Nat.le_refl _
  | succ n =>
    rw [lyS_succ, knS_succ, (srtS_perm _).length_eq, List.length_append]
    omega
theorem knS_ok {ws : List Nat} {m k M : Nat} {s : Sta} (hM : m ≤ M) (hs : StOk k M s) : ∀ n, ∀ t ∈ knS ws m s n, StOk k M t
  | 0 => fun t h => by rw [List.mem_singleton.mp h]; exact hs
  | n + 1 => fun t h => by
    rw [knS_succ] at h
    rcases List.mem_append.mp h with h | h
    · exact knS_ok hM hs n t h
    · obtain ⟨a, b⟩ := ((newS_spec _ _).2 t).mp h
      obtain ⟨u, mu, ht⟩ := List.mem_flatMap.mp a
      obtain ⟨e, me, rfl⟩ := List.mem_map.mp ht
      exact mvP_ok hM (knS_ok hM hs n u (lyS_sub ws m s n u mu)).1 e me
theorem ly_all (ws : List Nat) (m : Nat) (s : Sta) : ∀ n, (((List.range (n + 1)).map (lyS ws m s)).flatten).Perm (knS ws m s n)
  | 0 => by simp [lyS, knS, bfK]
  | n + 1 => by
    rw [List.range_succ, List.map_append, List.flatten_append, knS_succ]
    refine List.Perm.append (ly_all ws m s n) ?_
    rw [List.map_singleton, List.flatten_singleton, lyS_succ]
    exact srtS_perm _
def goS (ws : List Nat) (m : Nat) (s : Sta) (n : Nat) : Prop := lyS ws m s n ≠ [] ∧ (knS ws m s n).length ≤ 400
def StopS (ws : List Nat) (m : Nat) (s : Sta) (n : Nat) : Prop := (∀ j, j < n → goS ws m s j) ∧ ¬ goS ws m s n
theorem StopS.uniq {ws : List Nat} {m : Nat} {s : Sta} {a b : Nat} (h1 : StopS ws m s a) (h2 : StopS ws m s b) : a = b := by
  rcases Nat.lt_trichotomy a b with h | h | h
  · exact absurd (h2.1 a h) h1.2
  · exact h
  · exact absurd (h1.1 b h) h2.2
theorem go_grow {ws : List Nat} {m : Nat} {s : Sta} : ∀ n, (∀ j, j < n → goS ws m s j) → lyS ws m s n ≠ [] → n + 1 ≤ (knS ws m s n).length
  | 0, _, _ => Nat.le_refl _
  | n + 1, h, hl => by
    have ih := go_grow n (fun j hj => h j (by omega)) (h n (by omega)).1
    rw [knS_succ, List.length_append]
    have : newS (knS ws m s n) ((lyS ws m s n).flatMap (sucS ws m)) ≠ [] := fun z => hl (by rw [lyS_succ, z]; exact srtS_nil)
    have := List.length_pos_iff.mpr this
    omega
theorem flat_len (ws : List Nat) (m : Nat) : ∀ L : List Sta, (L.flatMap (sucS ws m)).length ≤ 2 * ws.length * L.length
  | [] => Nat.zero_le _
  | t :: L => by
    have := flat_len ws m L
    have h := mvP_len ws m t
    rw [List.flatMap_cons, List.length_append, List.length_cons, Nat.mul_succ]
    unfold sucS at this ⊢
    rw [List.length_map]
    omega
theorem kn_bd {ws : List Nat} {m : Nat} {s : Sta} {W : Nat} (hW : ws.length ≤ W) : ∀ n, (∀ j, j < n → goS ws m s j) → (knS ws m s n).length ≤ 400 + 2 * W * 400
  | 0, _ => by show 1 ≤ _; omega
  | n + 1, h => by
    have hg := h n (by omega)
    have h1 := flat_len ws m (lyS ws m s n)
    have h2 := newS_len (knS ws m s n) ((lyS ws m s n).flatMap (sucS ws m))
    have h3 := lyS_len ws m s n
    have h4 : 2 * ws.length * (lyS ws m s n).length ≤ 2 * W * 400 := Nat.mul_le_mul (Nat.mul_le_mul_left _ hW) (Nat.le_trans h3 hg.2)
    have h5 := hg.2
    rw [knS_succ, List.length_append]
    omega
def gsD (M : List (Sta × PyData)) : KTD := M.map fun e => (keS e.1, e.2)
def bsD (K : List Sta) : List (Sta × PyData) := K.map fun t => (t, .bool true)
theorem gs_len (M : List (Sta × PyData)) : (gsD M).length = M.length := List.length_map ..
theorem gs_any (M : List (Sta × PyData)) (t : Sta) : ((gsD M).any fun kv => decide (kv.1 = keS t)) = decide (t ∈ M.map (·.1)) := by
  unfold gsD
  rw [List.any_map]
  have : ((fun kv : List L2.Key × PyData => decide (kv.1 = keS t)) ∘ fun e : Sta × PyData => (keS e.1, e.2)) = fun e => decide (e.1 = t) := by
    funext e
    exact ke_decS
  rw [this]
  by_cases h : t ∈ M.map (·.1)
  · rw [decide_eq_true h]
    obtain ⟨e, me, he⟩ := List.mem_map.mp h
    exact List.any_eq_true.mpr ⟨e, me, decide_eq_true he⟩
  · rw [decide_eq_false h]
    refine List.any_eq_false.mpr fun e me => ?_
    simp only [decide_eq_true_eq]
    exact fun z => h (List.mem_map.mpr ⟨e, me, z⟩)
theorem gs_put {M : List (Sta × PyData)} {t : Sta} (d : PyData) (h : t ∉ M.map (·.1)) : putG (gsD M) (keS t) d = gsD (M ++ [(t, d)]) := by
  unfold putG
  rw [gs_any, decide_eq_false h, if_neg (by decide)]
  unfold gsD
  rw [List.map_append]
  rfl
theorem bs_keys (K : List Sta) : (bsD K).map (·.1) = K := by
  unfold bsD
  rw [List.map_map]
  exact List.map_id _
theorem ky_st (st : Sto) (s : Sta) : kyS st (.d (staD s)) = some (keS s) := by
  unfold kyS staD
  exact keysL_st _
theorem sta_lay {k M : Nat} : ∀ {L : List Sta}, (∀ s ∈ L, StOk k M s) → PyData.canLayAll0 (L.map staD) = true ∧ PyData.depthAll (L.map staD) ≤ 1
  | [], _ => ⟨rfl, by simp [PyData.depthAll]⟩
  | s :: L, h => by
    obtain ⟨h1, h2⟩ := sta_lay fun y m => h y (List.mem_cons_of_mem _ m)
    have hs := (h s List.mem_cons_self).2
    obtain ⟨a1, a2⟩ := lay_strs (l := s.map SX.S) fun z m => by
      obtain ⟨l, ml, rfl⟩ := List.mem_map.mp m
      exact strOk_blank (by rw [tl_S]; exact (hs l ml).1)
    rw [List.map_map] at a1 a2
    have e : s.map (fun l => PyData.str (SX.S l)) = s.map (PyData.str ∘ SX.S) := rfl
    rw [List.map_cons, PyData.canLayAll0, PyData.depthAll, h1, staD, e]
    refine ⟨by rw [PyData.canLay0, a1]; rfl, ?_⟩
    rw [PyData.depth, a2]
    omega
theorem sh_sts {k M : Nat} {L : List Sta} (h : ∀ s ∈ L, StOk k M s) : SeqAt.shaped (.list (L.map staD)) = true := by
  obtain ⟨h1, h2⟩ := sta_lay h
  simp [SeqAt.shaped, PyData.canLay0, h1, PyData.depth]
  omega
theorem sh_sta {k M : Nat} {s : Sta} (h : StOk k M s) : SeqAt.shaped (staD s) = true := by
  obtain ⟨h1, h2⟩ := sta_lay (L := [s]) (k := k) (M := M) fun t m => by rw [List.mem_singleton.mp m]; exact h
  simp only [List.map_cons, List.map_nil, PyData.canLayAll0, PyData.depthAll, Bool.and_true] at h1 h2
  simp [SeqAt.shaped, h1]
  omega
def sucL (ws : List Nat) (m : Nat) (s : Sta) : List Sta := (mvL ws m s).map (·.2)
theorem sucL_mem {ws : List Nat} {m : Nat} {s t : Sta} : t ∈ sucL ws m s ↔ t ∈ sucS ws m s := by
  unfold sucL sucS
  rw [List.mem_map, List.mem_map]
  exact ⟨fun ⟨e, me, h⟩ => ⟨e, mvL_mem.mp me, h⟩, fun ⟨e, me, h⟩ => ⟨e, mvL_mem.mpr me, h⟩⟩
theorem sucL_flat {ws : List Nat} {m : Nat} {L : List Sta} {t : Sta} : t ∈ L.flatMap (sucL ws m) ↔ t ∈ L.flatMap (sucS ws m) := by
  rw [List.mem_flatMap, List.mem_flatMap]
  exact ⟨fun ⟨s, ms, h⟩ => ⟨s, ms, sucL_mem.mp h⟩, fun ⟨s, ms, h⟩ => ⟨s, ms, sucL_mem.mpr h⟩⟩
theorem sucL_ok {ws : List Nat} {m k M : Nat} {s t : Sta} (hM : m ≤ M) (h : s.length = k) (ht : t ∈ sucL ws m s) : StOk k M t := by
  obtain ⟨e, me, rfl⟩ := List.mem_map.mp ht
  exact mvP_ok hM h e (mvL_mem.mp me)
theorem flatL_len (ws : List Nat) (m : Nat) : ∀ L : List Sta, (L.flatMap (sucL ws m)).length ≤ 2 * ws.length * L.length
  | [] => Nat.zero_le _
  | t :: L => by
    have := flatL_len ws m L
    have h := mvL_len m t ws
    rw [List.flatMap_cons, List.length_append, List.length_cons, Nat.mul_succ]
    unfold sucL at this ⊢
    rw [List.length_map]
    omega
theorem newS_in {K E : List Sta} {t : Sta} (h : t ∈ K ++ newS K E) : newS K (E ++ [t]) = newS K E := by
  have := newS_snoc K E t
  rw [show addS (K ++ newS K E, newS K E) t = (K ++ newS K E, newS K E) from if_pos h] at this
  exact (Prod.mk.inj this).2
theorem newS_out {K E : List Sta} {t : Sta} (h : t ∉ K ++ newS K E) : newS K (E ++ [t]) = newS K E ++ [t] := by
  have := newS_snoc K E t
  rw [show addS (K ++ newS K E, newS K E) t = (K ++ newS K E ++ [t], newS K E ++ [t]) from if_neg h] at this
  exact (Prod.mk.inj this).2
theorem gs_some (M : List (Sta × PyData)) (t : Sta) : (valG (gsD M) (keS t)).isSome = decide (t ∈ M.map (·.1)) := by
  rw [← gs_any]
  unfold valG
  rw [Option.isSome_map, List.isSome_find?]
theorem bs_put {K : List Sta} {t : Sta} (h : t ∉ K) : putG (gsD (bsD K)) (keS t) (.bool true) = gsD (bsD (K ++ [t])) := by
  rw [gs_put _ (by rw [bs_keys]; exact h)]
  unfold bsD
  rw [List.map_append]
  rfl
theorem bs_len (K : List Sta) : (gsD (bsD K)).length = K.length := by
  rw [gs_len]
  unfold bsD
  rw [List.length_map]
end Pz
set_option maxRecDepth 100000
namespace Pz
open PySem PySem.Spec PyProof.Rows L2 TL
variable [PenC]
def allL : Nat → List (List Nat)
  | 0 => [[]]
  | k + 1 => (allL k).map (fun l => l ++ [9]) ++ (allL k).map (fun l => l ++ [32])
abbrev strL (l : List Nat) : PyData := .str (SX.S l)
def clsL (l : List Nat) : List Int := (List.range (l.length + 1)).map fun i => colR ((i + 1 : Nat) : Int) (runsL l) 0 + (tailL l : Nat)
theorem any_mem {α : Type} {f : α → PyData} {l : List α} {d : PyData} (hf : ∀ a ∈ l, plainD (f a) = true) (hd : plainD d = true) : ((l.map f).any fun z => z.eqv d) = true ↔ ∃ a ∈ l, f a = d := by
  rw [List.any_eq_true]
  constructor
  · rintro ⟨z, mz, hz⟩
    obtain ⟨a, ma, rfl⟩ := List.mem_map.mp mz
    exact ⟨a, ma, (eqv_iff (hf a ma) hd).mp hz⟩
  · rintro ⟨a, ma, rfl⟩
    exact ⟨_, List.mem_map_of_mem ma, eqv_same hd⟩
def txA (s : Str) : PyData → PyData
  | .str z => .str (z ++ s)
  | d => d
def clD : PyData → PyData
  | .str z => .list ((clsL (tl z)).map .int)
  | d => d
abbrev grL (G : List Nat) : List PyData := (G.map spS).map .str
end Pz
set_option maxRecDepth 100000
namespace Pz
open PySem PySem.Spec PyProof.Rows L2 TL PySem.W
variable [PenC]
inductive PtOk (S : Sta) : List (Sta × PyData) → Prop
  | one : PtOk S [(S, .none)]
  | add {X D : List (Sta × PyData)} : PtOk S X → (∀ e ∈ D, ∃ p ∈ X.map (·.1), ∃ op, e.2 = .tuple [staD p, op]) → PtOk S (X ++ D)
theorem gs_val {X : List (Sta × PyData)} {t : Sta} (h : t ∈ X.map (·.1)) : ∃ e ∈ X, e.1 = t ∧ valG (gsD X) (keS t) = some e.2 := by
  have h2 : ((gsD X).any fun kv => decide (kv.1 = keS t)) = true := by rw [gs_any]; exact decide_eq_true h
  unfold valG
  cases hf : (gsD X).find? fun kv => decide (kv.1 = keS t) with
  | none =>
    obtain ⟨kv, m, hk⟩ := List.any_eq_true.mp h2
    exact absurd hk (List.find?_eq_none.mp hf kv m)
  | some kv =>
    have h1 := List.find?_some hf
    have hm := List.mem_of_find?_eq_some hf
    unfold gsD at hm
    obtain ⟨e, me, rfl⟩ := List.mem_map.mp hm
    exact ⟨e, me, keS_inj (of_decide_eq_true h1), rfl⟩
theorem pt_rank {S : Sta} {X : List (Sta × PyData)} (h : PtOk S X) : (X.map (·.1)).Nodup → ∃ rk : Sta → Nat, (∀ e ∈ X, rk e.1 < X.length) ∧ ∀ e ∈ X, e.2 = .none ∨ ∃ p ∈ X.map (·.1), ∃ op, e.2 = .tuple [staD p, op] ∧ rk p < rk e.1 := by
  induction h with
  | one => exact fun _ => ⟨fun _ => 0, fun e me => by simp, fun e me => .inl (by rw [List.mem_singleton.mp me])⟩
  | @add X D hX hD ih =>
    intro nd
    rw [List.map_append, List.nodup_append] at nd
    obtain ⟨n1, n2, n3⟩ := nd
    obtain ⟨rk, hb, hr⟩ := ih n1
    have hB : ∀ p ∈ X.map (·.1), rk p < X.length := fun p mp => by
      obtain ⟨e, me, rfl⟩ := List.mem_map.mp mp
      exact hb e me
    refine ⟨fun t => if t ∈ X.map (·.1) then rk t else X.length, fun e me => ?_, fun e me => ?_⟩
    · show (if e.1 ∈ X.map (·.1) then rk e.1 else X.length) < _
      rw [List.length_append]
      rcases List.mem_append.mp me with me | me
      · rw [if_pos (List.mem_map_of_mem me)]
        have := hb e me
        omega
      · rw [if_neg fun z => n3 _ z _ (List.mem_map_of_mem me) rfl]
        have := List.length_pos_of_mem me
        omega
    rcases List.mem_append.mp me with me | me
    · rcases hr e me with h | ⟨p, mp, op, h1, h2⟩
      · exact .inl h
      · refine .inr ⟨p, by rw [List.map_append]; exact List.mem_append_left _ mp, op, h1, ?_⟩
        show (if p ∈ X.map (·.1) then rk p else X.length) < (if e.1 ∈ X.map (·.1) then rk e.1 else X.length)
        rw [if_pos mp, if_pos (List.mem_map_of_mem me)]
        exact h2
    · obtain ⟨p, mp, op, h1⟩ := hD e me
      refine .inr ⟨p, by rw [List.map_append]; exact List.mem_append_left _ mp, op, h1, ?_⟩
      show (if p ∈ X.map (·.1) then rk p else X.length) < (if e.1 ∈ X.map (·.1) then rk e.1 else X.length)
      rw [if_pos mp, if_neg fun z => n3 _ z _ (List.mem_map_of_mem me) rfl]
      exact hB p mp
theorem gs_kyT (X : List (Sta × PyData)) : (gsD X).map (fun p => kyT p.1) = (X.map (·.1)).map staD := by
  unfold gsD
  rw [List.map_map, List.map_map]
  exact List.map_congr_left fun e _ => kyT_keS e.1
theorem plain_sta (s : Sta) : plainD (staD s) = true := by
  unfold staD
  rw [plainD]
  exact plain_all fun d m => by
    obtain ⟨l, _, rfl⟩ := List.mem_map.mp m
    rfl
theorem any_sta (A : List Sta) (G : Sta) : ((A.map staD).any fun z => z.eqv (staD G)) = decide (G ∈ A) := by
  have h := any_mem (f := staD) (l := A) (d := staD G) (fun a _ => plain_sta a) (plain_sta G)
  by_cases c : G ∈ A
  · rw [decide_eq_true c]
    exact h.mpr ⟨G, c, rfl⟩
  · rw [decide_eq_false c]
    refine Bool.eq_false_iff.mpr fun z => c ?_
    obtain ⟨a, ma, e⟩ := h.mp z
    exact staD_inj e ▸ ma
theorem rp_sta {k : Nat} {s : Sta} (hk : k ≤ 3) (h : StOk k 1000 s) : RepP 30100 1 (staD s) := by
  have h1 : ∀ d ∈ s.map (fun l => PyData.str (SX.S l)), RepP 10002 0 d := fun d m => by
    obtain ⟨l, ml, rfl⟩ := List.mem_map.mp m
    obtain ⟨b1, b2⟩ := h.2 l ml
    exact (rp_s (strOk_blank (by rw [tl_S]; exact b1))).mono (by rw [SX.S_len]; omega) (Nat.le_refl _)
  have h2 := (RepL.all h1).tup
  rw [List.length_map, h.1] at h2
  exact h2.mono (by omega) (Nat.le_refl _)
theorem rp_nev {k : Nat} {L : List Sta} (hk : k ≤ 3) (hL : L.length ≤ 400) (h : ∀ s ∈ L, StOk k 1000 s) : RepOk (.tuple [.str (Str.ofString "never"), .list (L.map staD)]) := by
  have h1 : ∀ d ∈ L.map staD, RepP 30100 1 d := fun d m => by
    obtain ⟨s, ms, rfl⟩ := List.mem_map.mp m
    exact rp_sta hk (h s ms)
  have h2 := (RepL.all h1).lst
  rw [List.length_map] at h2
  have h3 : (30100 + 2) * L.length ≤ (30100 + 2) * 400 := Nat.mul_le_mul_left _ hL
  have n5 : "never".length = 5 := by decide +kernel
  refine ((RepL.cons (rp_s strOk_lit) (RepL.cons h2 RepL.nil)).tup).r ?_ ?_
  · rw [len_lit]
    omega
  · omega
end Pz
set_option maxRecDepth 100000
namespace Pz
open PySem PySem.Spec PyProof.Rows L2 TL
variable [PenC]
def hrdT (c : Str) (fs : List (Str × PyData)) : Option PyData :=
  if c = Str.ofString "InvalidText" then some (.tuple [.str "text", .none])
  else if c = Str.ofString "UnbalancedBracket" then (fs.lookup (Str.ofString "number")).map fun d => .tuple [.str "bracket", d]
  else if c = Str.ofString "TooLong" then (fs.lookup (Str.ofString "length")).map fun d => .tuple [.str "long", d]
  else if c = Str.ofString "TooMany" then (fs.lookup (Str.ofString "count")).map fun d => .tuple [.str "many", d]
  else none
inductive Ans where
  | ok (d : PyData)
  | err (c : Str) (fs : List (Str × PyData))
abbrev insL (ls : List Ln) : List Str := ls.map fun x => SX.S x.2.1
def inA (d : PyData) : Ans := match lgD d with
  | .ok ls => .ok (.list ((insL ls).map .str))
  | .err c fs => .err c fs
def shortA (zs : List Str) (x : PyData) : Ans := if 60 < lonG (zs.map .str) then .err "TooLong" [("length", .int (lonG (zs.map .str)))] else .ok x
def vwA (d : PyData) : Ans := match lgD d with
  | .ok ls => shortA (insL ls) (.list (vwD (insL ls)))
  | .err c fs => .err c fs
def poA (d : PyData) : Ans := match lgD d with
  | .ok ls => shortA (insL ls) (.bool (poD (insL ls)))
  | .err c fs => .err c fs
def spA (d : PyData) : Ans := match lgD d with
  | .ok ls => shortA (insL ls) (splD (insL ls))
  | .err c fs => .err c fs
def duT (d : PyData) : PyData := match vwA d with
  | .ok _ => .none
  | .err c fs => (hrdT c fs).getD .none
def shA (d : PyData) : Ans := match vwA d with
  | .ok x => .ok (.bool ((PyData.str (PyData.list []).shown).eqv (.str x.shown)))
  | .err c fs => .err c fs
end Pz
set_option maxRecDepth 100000
namespace Pz
open PySem PySem.Spec PyProof.Rows L2 TL
variable [PenC]
structure Pg (T : List Nat) (zs : List Str) : Prop where
  row : ∀ r ∈ rowsL T, (ldL r).length ≤ 1000
  go : ∃ L : List Ln, insL L = zs ∧ ∀ rest, goL [] 0 0 (rowsL T ++ rest) = goL L 0 (rowsL T).length rest
  chr : ∀ c ∈ T, c < 0x110000
theorem Pg.snoc {T p : List Nat} {zs : List Str} {e : List (List Nat × List Nat)} (h : Pg T zs) (hp : Pc p e) (hc : ∀ c ∈ p, c < 0x110000) : Pg (T ++ 10 :: p) (zs ++ e.map fun x => SX.S x.1) := by
  obtain ⟨L, hL, hg⟩ := h.go
  refine ⟨fun r m => ?_, ⟨L ++ e.map (fun x => ((rowsL T).length, x.1, x.2)), ?_, fun rest => ?_⟩, fun c m => ?_⟩
  · rw [rowsL_app] at m
    rcases List.mem_append.mp m with m | m
    · exact h.row r m
    · exact hp.1 r m
  · rw [← hL, insL, List.map_append, List.map_map]; rfl
  · rw [rowsL_app, List.append_assoc, hg, hp.2, List.length_append]
  · rcases List.mem_append.mp m with m | m
    · exact h.chr c m
    · rcases List.mem_cons.mp m with rfl | m
      · decide
      · exact hc c m
theorem Pg.log {T : List Nat} {zs : List Str} (h : Pg T zs) : (20 < zs.length → logL T = .err "TooMany" [("count", .int (zs.length : Nat))]) ∧ (zs.length ≤ 20 → ∃ L, logL T = .ok L ∧ insL L = zs) := by
  obtain ⟨L, hL, hg⟩ := h.go
  have hl : L.length = zs.length := by rw [← hL, List.length_map]
  have e := hg []
  rw [List.append_nil, goL] at e
  have ha : ((rowsL T).all fun r => decide ((ldL r).length ≤ 1000)) = true := List.all_eq_true.mpr fun r m => decide_eq_true (h.row r m)
  unfold logL
  rw [if_pos ha, e]
  dsimp only
  rw [if_neg (by decide), hl]
  exact ⟨fun hz => by rw [if_pos hz], fun hz => ⟨L, by rw [if_neg (by omega)], hL⟩⟩
theorem Pg.all {T x : List Nat} {zs : List Str} (h : Pg T zs) (hx : ((rowsL x).all fun r => decide ((ldL r).length ≤ 1000)) = true) : ((rowsL (T ++ 10 :: x)).all fun r => decide ((ldL r).length ≤ 1000)) = true := by
  rw [rowsL_app, List.all_append, hx, Bool.and_true]
  exact List.all_eq_true.mpr fun r m => decide_eq_true (h.row r m)
def x43a : List Nat := List.replicate 999 32 ++ [9, 35, 32, 97]
def x43b : List Nat := [120, 40, 10] ++ List.replicate 1000 32 ++ [41]
theorem Pg.ok {T : List Nat} {zs : List Str} (h : Pg T zs) : PyData.strOk (SX.S T) = true := strOk_iff.mpr h.chr
theorem Pg.okT {T X : List Nat} {zs : List Str} (h : Pg T zs) (hl : T.length + X.length ≤ 1000000) (hx : ∀ c ∈ X, c < 0x110000) : ∀ z : Str, PyData.str (SX.S (T ++ X)) = .str z → z.length ≤ 1000000 ∧ PyData.strOk z = true := fun z e => by
  cases e
  refine ⟨by rw [SX.S_len, List.length_append]; exact hl, strOk_iff.mpr fun c m => ?_⟩
  rcases List.mem_append.mp (show c ∈ T ++ X from m) with m | m
  · exact h.chr c m
  · exact hx c m
def t43 (n : Nat) : List Nat := [97] ++ 10 :: (List.replicate n 32 ++ [98])
end Pz
set_option maxRecDepth 100000
namespace Pz
open PySem PySem.Spec PyProof.Rows L2 TL
variable [PenC]
def wtL (l : List Nat) : Nat := (l.map fun c => if c = 9 then 8 else 1).sum
theorem wtL_cons {c : Nat} {l : List Nat} : wtL (c :: l) = (if c = 9 then 8 else 1) + wtL l := by
  unfold wtL; rw [List.map_cons, List.sum_cons]
theorem wtL_ge : ∀ {l : List Nat}, l.length ≤ wtL l
  | [] => Nat.le_refl _
  | c :: l => by
    have := wtL_ge (l := l)
    rw [wtL_cons, List.length_cons]
    split <;> omega
def BrZ (k : Nat) (z : Str) : Prop := blankL (tl z) ∧ wtL (tl z) ≤ 32 * k
theorem BrZ.mono {k m : Nat} {z : Str} (h : BrZ k z) (hk : k ≤ m) : BrZ m z := ⟨h.1, by have := h.2; omega⟩
theorem BrZ.len {k : Nat} {z : Str} (h : BrZ k z) : z.length ≤ 32 * k := by
  have := wtL_ge (l := tl z)
  rw [Pz.len_tl]; have := h.2; omega
end Pz
set_option maxRecDepth 100000
namespace Pz
variable [PenC]
open PySem PySem.Spec PyProof.Rows L2 TL
def zeroAt (ds : List PyData) (i : Nat) : Bool := match ds[i]? with
  | some (.int x) => decide (x = 0)
  | _ => false
def rootV (ds : List PyData) (i : Nat) : PyData := if ds.length < i then .none else .bool (zeroAt ds i)
def rootK (ds : List PyData) (i : Nat) : PyData := if ds.length < i then .int 0 else .int (if zeroAt ds i then 1 else 2)
def itemsT (d : PyData) : List PyData := match d with
  | .tuple ds => ds
  | _ => []
def isB (b : Bool) (i : Nat) (d : PyData) : Bool := !decide ((itemsT d).length < i) && (zeroAt (itemsT d) i == b)
def confAt (fs : List PyData) (i : Nat) : Option PyData := match fs.findIdx? (isB true i), fs.findIdx? (isB false i) with
  | some a, some b => some (.tuple [.int (i : Nat), .int (a : Nat), .int (b : Nat)])
  | _, _ => none
def conf (fs : List PyData) : Nat → Nat → PyData
  | 0, _ => .none
  | n + 1, k => match confAt fs k with
    | some d => d
    | none => conf fs n (k + 1)
def Fam (n : Nat) (fs : List PyData) : Prop := ∃ roots : Nat → Bool, ∀ d ∈ fs, ∃ ds, d = .tuple ds ∧ Ints (fun x => 0 ≤ x ∧ x ≤ 50) ds ∧ ds.length ≤ n ∧ ∀ i, i ≤ ds.length → i < n → zeroAt ds i = roots i
theorem Fam.conf {n : Nat} {fs : List PyData} (h : Fam n fs) : ∀ m k, k + m ≤ n → Pz.conf fs m k = .none
  | 0, _, _ => rfl
  | m + 1, k, hk => by
    obtain ⟨roots, hr⟩ := id h
    have e : confAt fs k = none := by
      unfold confAt
      cases h1 : fs.findIdx? (isB true k) with
      | none => rfl
      | some a =>
        cases h2 : fs.findIdx? (isB false k) with
        | none => rfl
        | some b =>
          exfalso
          obtain ⟨ha, pa, _⟩ := List.findIdx?_eq_some_iff_getElem.mp h1
          obtain ⟨hb, pb, _⟩ := List.findIdx?_eq_some_iff_getElem.mp h2
          obtain ⟨ds, e1, _, _, z1⟩ := hr fs[a] (List.getElem_mem ha)
          obtain ⟨es, e2, _, _, z2⟩ := hr fs[b] (List.getElem_mem hb)
          unfold isB at pa pb
          rw [e1] at pa
          rw [e2] at pb
          simp only [itemsT, Bool.and_eq_true, Bool.not_eq_true', decide_eq_false_iff_not, beq_iff_eq] at pa pb
          have w1 := z1 k (Nat.le_of_not_lt (of_decide_eq_false pa.1)) (by omega)
          have w2 := z2 k (Nat.le_of_not_lt (of_decide_eq_false pb.1)) (by omega)
          rw [pa.2] at w1
          rw [pb.2] at w2
          rw [← w1] at w2
          cases w2
    rw [Pz.conf, e]
    exact Fam.conf h m (k + 1) (by omega)
def FamB (a : Nat) (bs : List Bool) (fs : List PyData) : Prop := ∀ d ∈ fs, ∃ ds, d = .tuple ds ∧ Ints (fun x => 0 ≤ x ∧ x ≤ 50) ds ∧ ds.length ≤ a ∧ ∀ i, i ≤ ds.length → i < a → zeroAt ds i = bs.getD i false
end Pz
set_option maxRecDepth 100000
namespace Pz
open PySem PySem.Spec PyProof.Rows L2 TL
variable [PenC]
def seqOk : Int → List PyData → Bool
  | _, [] => true
  | b, .int x :: r => decide (0 ≤ x) && decide (x ≤ b + 1) && seqOk x r
  | _, _ => false
def lastD : List PyData → Int
  | [] => 0
  | [.int x] => x
  | _ :: r => lastD r
theorem lastD_snoc (x : Int) : ∀ (l : List PyData), lastD (l ++ [.int x]) = x
  | [] => rfl
  | [d] => by cases d <;> rfl
  | d :: e :: r => by rw [List.cons_append, List.cons_append, lastD]; · exact lastD_snoc x (e :: r)
                      · intro y _ h; cases h
theorem seqOk_snoc (x : Int) : ∀ (l : List PyData) (b : Int), seqOk b l = true → 0 ≤ x → (∀ b', (l = [] → b' = b) → (∀ i y, l = i ++ [.int y] → b' = y) → x ≤ b' + 1) → seqOk b (l ++ [.int x]) = true
  | [], b, _, h0, h => by
    have := h b (fun _ => rfl) (fun i y e => by simp at e)
    simp [seqOk, h0, this]
  | d :: r, b, hs, h0, h => by
    cases d with
    | int z =>
      rw [seqOk, Bool.and_eq_true, Bool.and_eq_true] at hs
      rw [List.cons_append, seqOk, hs.1.1, hs.1.2, Bool.true_and, Bool.true_and]
      refine seqOk_snoc x r z hs.2 h0 fun b' e1 e2 => h b' (fun e => by simp at e) fun i y e => ?_
      cases i with
      | nil => simp at e; rw [e1 e.2, e.1]
      | cons a i => simp at e; exact e2 i y e.2
    | _ => simp [seqOk] at hs
def possD : PyData → Int → Bool
  | .tuple vs, c => decide ((vs.length : Int) ≤ c) && seqOk (-1) vs && (decide (vs.length = 0) || decide ((vs.length : Int) = c) || decide (0 < lastD vs))
  | _, _ => false
end Pz
set_option maxRecDepth 100000
namespace Pz
open PySem PySem.Spec PyProof.Rows L2 TL
variable [PenC]
theorem asc_len1 {s : List Int} (h : Asc s) : s.length = 1 ↔ lastI s = 0 := by
  obtain ⟨h1, r, rfl⟩ := h
  constructor
  · intro e
    cases r with
    | nil => rfl
    | cons a r => simp at e
  · intro e
    cases r with
    | nil => rfl
    | cons a r =>
      exfalso
      have ha : 0 < a := (List.pairwise_cons.mp h1).1 a List.mem_cons_self
      have := Asc.le_last ⟨h1, _, rfl⟩ a (by simp)
      omega
theorem lvG_poss {n : Nat} : ∀ (cs s f : List Int), Asc s → (∀ c ∈ cs, 0 ≤ c) → (f = [] → s = [0]) → (∀ i y, f = i ++ [y] → y = (s.length : Int) - 1) → seqOk (-1) (f.map .int) = true → f.length + cs.length = n →
    ∃ g, lvG s f cs = f ++ g ∧ g.length ≤ cs.length ∧ (∀ i, i < g.length → ∃ x c, g[i]? = some x ∧ cs[i]? = some c ∧ (x = 0 ↔ c = 0)) ∧ (g.length < cs.length → ∃ c, cs[g.length]? = some c ∧ c ≠ 0) ∧ seqOk (-1) ((f ++ g).map .int) = true ∧ (f ++ g = [] ∨ (f ++ g).length = n ∨ 0 < lastD ((f ++ g).map .int))
  | [], s, f, hs, hc, hf, hl, hq, hn => ⟨[], by rw [lvG, List.append_nil], Nat.le_refl _, (fun i hi => by simp at hi), (fun hi => by simp at hi), by rw [List.append_nil]; exact hq, .inr (.inl (by rw [List.append_nil]; simpa using hn))⟩
  | c :: r, s, f, hs, hc, hf, hl, hq, hn => by
    have hc0 := hc c List.mem_cons_self
    have h2 := hs.nx (f := f) hc0
    have h3 := nxS_len (s := s) (f := f) (c := c)
    have h4 := h2.len
    have h5 := hs.len
    rw [lvG]
    by_cases e : lastI (nxS s f c) = c
    · rw [if_pos e]
      have hz : ((nxS s f c).length : Int) - 1 = 0 ↔ c = 0 := by
        have := asc_len1 h2
        rw [e] at this
        rw [← this]; omega
      have hq2 : seqOk (-1) ((f ++ [((nxS s f c).length : Int) - 1]).map .int) = true := by
        rw [List.map_append]
        refine seqOk_snoc _ _ _ hq (by omega) fun b' e1 e2 => ?_
        by_cases hf0 : f = []
        · rw [e1 (by rw [hf0]; rfl)]
          have : nxS s f c = [0] ∨ (nxS s f c).length ≤ 1 := by
            right
            unfold nxS
            rw [if_neg (fun h => h.2 hf0), hf hf0]
            exact List.length_filter_le _ _
          rcases this with h | h
          · rw [h]; decide
          · omega
        · obtain ⟨a, y, ef⟩ : ∃ a y, f = a ++ [y] := ⟨_, _, (List.dropLast_concat_getLast hf0).symm⟩
          have hy := hl a y ef
          rw [e2 (a.map .int) y (by rw [ef, List.map_append]; rfl), hy]
          omega
      obtain ⟨g, g1, g2, g3, g4, g5, g6⟩ := lvG_poss (n := n) r (nxS s f c) (f ++ [((nxS s f c).length : Int) - 1]) h2 (fun x m => hc x (List.mem_cons_of_mem _ m)) (fun h => by simp at h) (fun i y h => by
        have := List.append_inj_right' h rfl
        simp at this; exact this.symm) hq2 (by simp only [List.length_append, List.length_cons, List.length_nil] at hn ⊢; omega)
      refine ⟨(((nxS s f c).length : Int) - 1) :: g, by rw [g1, List.append_assoc]; rfl, by simp only [List.length_cons]; omega, fun i hi => ?_, fun hi => ?_, by rw [List.append_assoc] at g5; exact g5, by rw [List.append_assoc] at g6; exact g6⟩
      · cases i with
        | zero => exact ⟨_, _, rfl, rfl, hz⟩
        | succ i => exact g3 i (by simpa using hi)
      · exact g4 (by simpa using hi)
    · rw [if_neg e]
      have hcn : c ≠ 0 := fun h0 => by
        subst h0
        refine e ?_
        unfold nxS
        by_cases hq1 : lastI s < 0 ∧ f ≠ []
        · obtain ⟨_, r0, rfl⟩ := id hs
          have := hs.le_last 0 List.mem_cons_self
          omega
        · rw [if_neg hq1]
          have hfil := hs.fil (c := 0) (by decide)
          have h9 := hfil.le_last
          obtain ⟨hp, r1, e1⟩ := hfil
          have hm : lastI (s.filter fun x => decide (x ≤ 0)) ∈ (s.filter fun x => decide (x ≤ 0)) := by
            rw [e1]
            obtain ⟨a, y, e2⟩ : ∃ a y, (0 : Int) :: r1 = a ++ [y] := ⟨_, _, (List.dropLast_concat_getLast (by simp)).symm⟩
            rw [e2, lastI_snoc]; simp
          have h10 := of_decide_eq_true (List.mem_filter.mp hm).2
          have h11 := h9 0 (by rw [e1]; exact List.mem_cons_self)
          omega
      refine ⟨[], by rw [List.append_nil], Nat.zero_le _, (fun i hi => by simp at hi), (fun _ => ⟨c, rfl, hcn⟩), by rw [List.append_nil]; exact hq, ?_⟩
      rw [List.append_nil]
      by_cases hf0 : f = []
      · exact .inl hf0
      · refine .inr (.inr ?_)
        obtain ⟨a, y, ef⟩ : ∃ a y, f = a ++ [y] := ⟨_, _, (List.dropLast_concat_getLast hf0).symm⟩
        have hy := hl a y ef
        rw [ef, List.map_append, List.map_cons, List.map_nil, lastD_snoc, hy]
        have : ¬ s.length = 1 := fun h1 => by
          have h0 := (asc_len1 hs).mp h1
          have : lastI s < c := by omega
          refine e ?_
          unfold nxS
          rw [if_pos ⟨this, hf0⟩, lastI_snoc]
        omega
theorem lvF_poss {cs : List Int} (hc : ∀ c ∈ cs, 0 ≤ c) : possD (tpI (lvF cs)) (cs.length : Nat) = true ∧ ∀ i, i ≤ (lvF cs).length → i < cs.length → ∃ c, cs[i]? = some c ∧ zeroAt ((lvF cs).map .int) i = decide (c = 0) := by
  obtain ⟨g, g1, g2, g3, g4, g5, g6⟩ := lvG_poss (n := cs.length) cs [0] [] asc0 hc (fun _ => rfl) (fun i y h => by simp at h) rfl (by simp)
  rw [List.nil_append] at g1 g5 g6
  have e : lvF cs = g := g1
  rw [e]
  refine ⟨?_, fun i h1 h2 => ?_⟩
  · unfold possD tpI
    dsimp only
    rw [g5, List.length_map, decide_eq_true (by omega), Bool.and_true, Bool.true_and]
    rcases g6 with h | h | h
    · rw [h]; rfl
    · rw [decide_eq_true (show (g.length : Int) = cs.length by omega)]; simp
    · rw [decide_eq_true h, Bool.or_true]
  · unfold zeroAt
    rw [List.getElem?_map]
    rcases Nat.lt_or_ge i g.length with h | h
    · obtain ⟨x, c, e1, e2, e3⟩ := g3 i h
      refine ⟨c, e2, ?_⟩
      rw [e1]
      exact decide_eq_decide.mpr e3
    · obtain rfl : i = g.length := by omega
      obtain ⟨c, e2, e3⟩ := g4 h2
      refine ⟨c, e2, ?_⟩
      rw [List.getElem?_eq_none (Nat.le_refl _), decide_eq_false e3]
      rfl
theorem rowsA_ne0 : ∀ (l acc : List Nat), rowsA acc l ≠ []
  | [], acc => by rw [rowsA]; nofun
  | c :: l, acc => by
    rw [rowsA]
    split
    · nofun
    · exact rowsA_ne0 l _
def rwD (ps : List Pcs) : List PyData := (ps.flatMap fun x => rowsL x.1).map fun p => .str (SX.S p)
def nuD (ps : List Pcs) : List PyData := (pgE 0 ps).map fun x => .int (x.1 : Nat)
def PcB (x : Pcs) : Prop := Pc x.1 x.2 ∧ x.1.length ≤ 1100 ∧ ∀ c ∈ x.1, c < 0x110000
def wdF : List Nat := [102, 40, 10, 9, 32, 32, 120, 10, 41]
theorem colL_pos {b : Int} (h0 : 0 < b) : ∀ (l : List Nat) (f : Int), 0 ≤ f → l ≠ [] → 0 < colL b l f
  | [], f, h, hn => absurd rfl hn
  | c :: cs, f, h, hn => by
    have e := tab_step h0 f
    have h1 := Int.emod_nonneg f (by omega : b ≠ 0)
    have h2 := Int.emod_lt_of_pos f h0
    have q : 0 < (if c = 32 then f + 1 else (f / b + 1) * b) := by
      split
      · omega
      · rw [e]
        have h3 := Int.mul_ediv_add_emod f b
        have h4 : 0 ≤ b * (f / b) := Int.mul_nonneg (by omega) (Int.ediv_nonneg h (by omega))
        omega
    rw [colL]
    by_cases hc : cs = []
    · rw [hc, colL]; exact q
    · exact colL_pos h0 cs _ (by omega) hc
theorem colZ_zero {z : Str} (h : blankL (tl z)) {w : Int} (h0 : 0 < w) : colZ w z = 0 ↔ tl z = [] := by
  rw [colZ_L h]
  constructor
  · intro e
    exact Classical.byContradiction fun hn => by have := colL_pos h0 (tl z) 0 (Int.le_refl _) hn; omega
  · intro e; rw [e]; rfl
def LvZ (zs : List Str) (d : PyData) : Prop := ∃ w : Int, 0 < w ∧ w ≤ 10 ^ 9 ∧ d = tpI (lvF (zs.map (colZ w)))
def isNil (z : Str) : Bool := decide (tl z = [])
theorem LvZ.all {zs : List Str} (hz : ∀ z ∈ zs, blankL (tl z)) {d : PyData} (h : LvZ zs d) : ∃ l : List Int, d = tpI l ∧ l.length ≤ zs.length ∧ possD d (zs.length : Nat) = true ∧ Ints (fun x => 0 ≤ x ∧ x ≤ zs.length) (l.map .int) ∧
    ∀ i, i ≤ l.length → i < zs.length → zeroAt (l.map .int) i = ((zs.map isNil)[i]?.getD false) := by
  obtain ⟨w, w0, w1, rfl⟩ := h
  have hc : ∀ c ∈ zs.map (colZ w), 0 ≤ c := fun c m => by
    obtain ⟨z, mz, rfl⟩ := List.mem_map.mp m
    exact (colZ_nn (hz z mz) w0 w1).1
  obtain ⟨p1, p2⟩ := lvF_poss hc
  obtain ⟨b1, b2⟩ := lvF_bd hc
  rw [List.length_map] at p1 p2 b1 b2
  refine ⟨_, rfl, b2, p1, fun d m => ?_, fun i h1 h2 => ?_⟩
  · obtain ⟨x, mx, rfl⟩ := List.mem_map.mp m
    exact ⟨x, rfl, b1 x mx⟩
  · obtain ⟨c, e1, e2⟩ := p2 i h1 h2
    rw [e2]
    rw [List.getElem?_map] at e1 ⊢
    rw [List.getElem?_eq_getElem h2] at e1 ⊢
    simp only [Option.map_some, Option.some.injEq, Option.getD_some] at e1 ⊢
    rw [← e1]
    unfold isNil
    exact decide_eq_decide.mpr (colZ_zero (hz _ (List.getElem_mem h2)) w0)
end Pz
set_option maxRecDepth 100000
namespace Pz
open PySem PySem.Spec PyProof.Rows L2 TL
variable [PenC]
def rdA (d : PyData) (w : Int) : Ans := match lgD d with
  | .ok ls => .ok (tpI (lvF ((insL ls).map (colZ w))))
  | .err c fs => .err c fs
def hrdB (c : Str) (fs : List (Str × PyData)) : Option PyData := if c = Str.ofString "TooLong" then none else hrdT c fs
def mnP (n : Nat) : List Pcs := List.replicate n ([9, 98], [([9], [98])]) ++ [([], [])]
def mnT (n : Nat) : List Nat := TL.joinL [10] ((mnP n).map fun x => x.1)
def wdP (bs : List Str) : List Pcs := bs.map fun z => (tl z ++ [120], [(tl z, [120])])
def wdT (bs : List Str) : List Nat := TL.joinL [10] ((wdP bs).map fun x => x.1)
end Pz
set_option maxRecDepth 100000
namespace Pz
open PySem PySem.Spec PyProof.Rows L2 TL
variable [PenC]
def faA (d : PyData) (k : Int) : Ans := match lgD d with
  | .ok ls => .ok (.list ((List.range (k + 1).toNat).map fun i => tpI (lvE (insL ls) (i + 1))))
  | .err c fs => .err c fs
def fmD (zs : List Str) (k : Int) : List PyData := (List.range (k + 1).toNat).map fun i => tpI (lvE zs (i + 1))
end Pz
set_option maxRecDepth 100000
namespace Pz
open PySem PySem.Spec PyProof.Rows L2 TL
variable [PenC]
abbrev lvZ (zs : List Str) (w : Int) : List Int := lvF (zs.map (colZ w))
def acB (zs : List Str) (ws : List Int) : Bool := ws.all fun w => decide (lvZ zs w = lvZ zs (ws.headD 0)) && decide ((lvZ zs w).length = zs.length)
def acA (d : PyData) (ws : List Int) : Ans := match lgD d with
  | .ok ls => .ok (.bool (acB (insL ls) ws))
  | .err c fs => .err c fs
def acD (zs : List Str) (ws : List Int) (d : PyData) : PyData := match d with
  | .tuple ds => .bool (PyData.eqv (.tuple ds) (tpI (lvZ zs (ws.headD 0))) && decide (ds.length = zs.length))
  | d => d
def WdD (d : PyData) : Prop := ∃ ws : List Int, d = .list (ws.map .int) ∧ ws ≠ [] ∧ (ws.length ≤ 6 ∨ ws.length = 12) ∧ ∀ w ∈ ws, 1 ≤ w ∧ w ≤ 10 ^ 9
end Pz
set_option maxRecDepth 100000
namespace Pz
open PySem PySem.Spec PyProof.Rows L2 TL
variable [PenC]
end Pz
set_option maxRecDepth 100000
namespace Pz
open PySem PySem.Spec PyProof.Rows L2 TL
variable [PenC]
def okV (m : Nat) : Bool := decide (m = 0) || (!(apX (cA (unitL m)) m).isEmpty && !(apY (cA (unitL m)) m).isEmpty)
def fooP (F G : List Nat) : List Pcs := [([97], [([], [97])]), (F ++ [98], [(F, [98])]), (G ++ [99], [(G, [99])])]
def fooL (F G : List Nat) : List Nat := TL.joinL [10] ((fooP F G).map fun x => x.1)
def fooZ (F G : List Nat) : List Str := [SX.S [], SX.S F, SX.S G]
def f3 (s : Int) : List Int := if s < 0 then [0, 1, 2] else if s = 0 then [0, 1, 1] else [0, 1]
def lbD (d : PyData) : PyData := match d with
  | .tuple [_, i, b] => .tuple [i, b]
  | d => d
def fooR (F G : List Nat) : List (Str × Str) := [(SX.S [], SX.S [97]), (SX.S F, SX.S [98]), (SX.S G, SX.S [99])]
abbrev pairD (p : Str × Str) : PyData := .tuple [.str p.1, .str p.2]
def grpZ (z : Str) : List Int := (runsL (tl z) ++ [tailL (tl z)]).map fun n : Nat => (n : Int)
def lenD (d : PyData) : PyData := match d with
  | .str x => .int (x.length : Nat)
  | d => d
def neF (zs : List Str) (L : List Int) (d : PyData) : Option PyData := if lvZ zs (toI d) = L then none else some d
def fstZ (d : PyData) : Str := match d with
  | .tuple [.str z, _] => z
  | _ => ⟨#[]⟩
structure FooOk (ws : List PyData) (l : Int) (tf : Bool) (F G : List Nat) : Prop where
  bF : blankL F ∧ F.length ≤ 900
  bG : blankL G ∧ G.length ≤ 900
  gF : gMax (SX.S F) ≤ l
  gG : gMax (SX.S G) ≤ l
  fr : tf = true → tabF (SX.S F) = true ∧ tabF (SX.S G) = true
  lv : ∃ L : List Int, L.length = 3 ∧ (∀ w : Int, PyData.int w ∈ ws → lvZ (fooZ F G) w = L) ∧ ∃ x : Int, 1 ≤ x ∧ x ≤ max (gMax (SX.S F)) (gMax (SX.S G)) + 1 ∧ lvZ (fooZ F G) x ≠ L
def fooD (ws : List PyData) (l : Int) (tf : Bool) : PyData := match undD ws l tf with
  | .tuple [.str a, .str b, _] => if 0 < sgnI (colZ (toI (ws.headD .none)) a) (colZ (toI (ws.headD .none)) b) then .str (SX.S (fooL (tl b) (tl a))) else .str (SX.S (fooL (tl a) (tl b)))
  | _ => .none
end Pz
set_option maxRecDepth 100000
namespace Pz
open PySem PySem.Spec PyProof.Rows L2 TL
variable [PenC]
theorem joinL_lenG {sep : List Nat} {B : Nat} : ∀ {l : List (List Nat)}, (∀ x ∈ l, x.length ≤ B) → (TL.joinL sep l).length ≤ (B + sep.length) * l.length
  | [], _ => by simp [TL.joinL]
  | [p], h => by
    have := h p List.mem_cons_self
    simp [TL.joinL]; omega
  | p :: q :: r, h => by
    have h1 := h p List.mem_cons_self
    have := joinL_lenG (sep := sep) (l := q :: r) fun x m => h x (List.mem_cons_of_mem _ m)
    rw [show TL.joinL sep (p :: q :: r) = p ++ (sep ++ TL.joinL sep (q :: r)) by simp [TL.joinL], List.length_append, List.length_append, List.length_cons, Nat.mul_succ]
    omega
def rdQ (ls : List Int) : List Nat := if ls = [] then [45] else TL.joinL [44] (ls.map fun i => numL i.toNat)
def enQ (e : PyData) : List Nat := match e with
  | .int t => numL t.toNat
  | _ => []
def vwQ (d : PyData) : List Nat := match d with
  | .tuple [.int s, e, .tuple ls] => numL s.toNat ++ [45] ++ enQ e ++ [32] ++ rdQ (ls.map toI)
  | _ => []
def vwsQ (ds : List PyData) : List Nat := TL.joinL [59, 32] (ds.map vwQ)
structure LvOk (ls : List Int) : Prop where
  len : ls.length ≤ 30
  bd : ∀ x ∈ ls, 0 ≤ x ∧ x ≤ 1000
def EnOk (e : PyData) : Prop := e = .none ∨ ∃ t : Int, e = .int t ∧ 0 ≤ t ∧ t ≤ 10 ^ 12
def IsVw (d : PyData) : Prop := ∃ (s : Int) (e : PyData) (ls : List Int), d = .tuple [.int s, e, tpI ls] ∧ 0 ≤ s ∧ s ≤ 10 ^ 12 ∧ EnOk e ∧ LvOk ls
theorem joinL_mem {sep : List Nat} {c : Nat} : ∀ {ps : List (List Nat)}, c ∈ TL.joinL sep ps → c ∈ sep ∨ ∃ p ∈ ps, c ∈ p
  | [], m => by simp [TL.joinL] at m
  | [p], m => .inr ⟨p, List.mem_cons_self, by simpa [TL.joinL] using m⟩
  | p :: q :: r, m => by
    rw [show TL.joinL sep (p :: q :: r) = p ++ (sep ++ TL.joinL sep (q :: r)) by simp [TL.joinL]] at m
    rcases List.mem_append.mp m with m | m
    · exact .inr ⟨p, List.mem_cons_self, m⟩
    · rcases List.mem_append.mp m with m | m
      · exact .inl m
      · rcases joinL_mem m with h | ⟨x, mx, h⟩
        · exact .inl h
        · exact .inr ⟨x, List.mem_cons_of_mem _ mx, h⟩
theorem strOk_asc {l : List Nat} (h : ∀ c ∈ l, c < 128) : PyData.strOk (SX.S l) = true := by
  unfold PyData.strOk
  refine Array.all_eq_true_iff_forall_mem.mpr fun c m => ?_
  have := h c (by simpa [SX.S] using m)
  simp; omega
end Pz
set_option maxRecDepth 100000
namespace Pz
open PySem PySem.Spec PyProof.Rows L2 TL
variable [PenC]
def wcE (c : Nat) : Bool := decide (c < 128) && decide (c ≠ 10) && decide (c ≠ 35) && decide (stp c = 0)
structure WdE (l : List Nat) : Prop where
  len : l.length ≤ 5
  hd : ∃ c r, l = c :: r ∧ blC c = false
  all : ∀ c ∈ l, wcE c = true
def RwE (r : List Nat) : Prop := r.length ≤ 16 ∧ ∀ c ∈ r, c < 128 ∧ c ≠ 10
structure EnE (E : List (List Nat)) : Prop where
  rows : ∀ r ∈ E, RwE r
  len : E.length ≤ 5
  name : nameB (TL.joinL [10] E) = true
  ne : E ≠ []
  rl : rowsL (TL.joinL [10] E) = E
structure PcE (x : Pcs) : Prop where
  pc : Pc x.1 x.2
  len : x.1.length ≤ 100
  chr : ∀ c ∈ x.1, c < 128
  e1 : x.2.length ≤ 1
  el : ∀ y ∈ x.2, y.1.length ≤ 100 ∧ y.2.length ≤ 100 ∧ (∀ c ∈ y.1, c < 128) ∧ ∀ c ∈ y.2, c < 128
  w : PcW x
theorem pgE_mem {ps : List Pcs} {n : Nat} {l : Ln} (m : l ∈ pgE n ps) : ∃ x ∈ ps, l.2 ∈ x.2 := by
  have : l.2 ∈ (pgE n ps).map fun x => x.2 := List.mem_map_of_mem m
  rw [pgE_snd] at this
  exact List.mem_flatMap.mp this
theorem pgE_lt : ∀ (ps : List Pcs) (n B : Nat), (∀ x ∈ ps, (rowsL x.1).length ≤ B ∧ 0 < (rowsL x.1).length) → ∀ l ∈ pgE n ps, l.1 < n + B * ps.length
  | [], _, _, _, l, m => by cases m
  | (p, e) :: ps, n, B, h, l, m => by
    have h1 := h (p, e) List.mem_cons_self
    rw [List.length_cons, Nat.mul_succ]
    rw [pgE] at m
    rcases List.mem_append.mp m with m | m
    · obtain ⟨x, _, rfl⟩ := List.mem_map.mp m
      have : B * ps.length ≥ 0 := Nat.zero_le _
      dsimp only at h1 ⊢
      omega
    · have := pgE_lt ps _ B (fun x m => h x (List.mem_cons_of_mem _ m)) l m
      dsimp only at h1
      omega
theorem rowsL_le (p : List Nat) : (rowsL p).length ≤ p.length + 1 ∧ 0 < (rowsL p).length := by
  have := rowsL_len p
  exact ⟨by omega, by cases e : rowsL p with
    | nil => exact absurd e (rowsA_ne0 p [])
    | cons x xs => simp⟩
structure SrcE (ps : List Pcs) : Prop where
  all : ∀ x ∈ ps, PcE x
  len : ps.length ≤ 90
  num : (ps.flatMap fun x => x.2).length ≤ 20
theorem SrcE.rep {ps : List Pcs} (h : SrcE ps) (n : Nat) (hn : n ≤ 1) : RepP 60000 2 (.list ((pgE n ps).map lnD)) := by
  have hl : (pgE n ps).length ≤ 20 := by
    have := congrArg List.length (pgE_snd ps n)
    rw [List.length_map] at this
    have := h.num
    omega
  have h1 : RepL ((2600 + 2) * ((pgE n ps).map lnD).length) 1 ((pgE n ps).map lnD) := RepL.all fun d m => by
    obtain ⟨l, ml, rfl⟩ := List.mem_map.mp m
    obtain ⟨x, mx, ly⟩ := pgE_mem ml
    obtain ⟨g1, g2, g3, g4⟩ := (h.all x mx).el _ ly
    have hlt := pgE_lt ps n 101 (fun x m => by have := (h.all x m).len; have := rowsL_le x.1; omega) l ml
    have := h.len
    have h10 : (10 : Nat) ^ 100 > 100000 := by decide +kernel
    have r1 := rp_s (z := SX.S l.2.1) (strOk_asc g3)
    have r2 := rp_s (z := SX.S l.2.2) (strOk_asc g4)
    rw [SX.S_len] at r1 r2
    exact ((RepL.cons (rp_i (i := ((l.1 : Nat) : Int)) (by rw [Int.natAbs_natCast]; omega)) (RepL.cons r1 (RepL.cons r2 RepL.nil))).tup).mono (by omega) (by decide)
  rw [List.length_map] at h1
  exact h1.lst.mono (by have := Nat.mul_le_mul_left 2602 hl; omega) (by decide)
theorem SrcE.log {ps : List Pcs} (h : SrcE ps) : logL (TL.joinL [10] (ps.map fun x => x.1)) = .ok (pgE 0 ps) := page_ok (fun x m => (h.all x m).pc) h.num
theorem SrcE.str {ps : List Pcs} (h : SrcE ps) : (TL.joinL [10] (ps.map fun x => x.1)).length ≤ 10000 ∧ PyData.strOk (SX.S (TL.joinL [10] (ps.map fun x => x.1))) = true := by
  constructor
  · have := joinL_lenG (sep := [10]) (B := 100) (l := ps.map fun x => x.1) fun x m => by
      obtain ⟨y, my, rfl⟩ := List.mem_map.mp m
      exact (h.all y my).len
    rw [List.length_map] at this
    have h2 : (100 + ([10] : List Nat).length) * ps.length ≤ 101 * 90 := Nat.mul_le_mul_left 101 h.len
    omega
  · refine strOk_asc fun c m => ?_
    rcases joinL_mem m with m | ⟨p, mp, m⟩
    · rw [List.mem_singleton.mp m]; decide
    · obtain ⟨y, my, rfl⟩ := List.mem_map.mp mp
      exact (h.all y my).chr c m
def alE : Str := Str.ofString "!\"$&'*+,-./0123456789:;<=>?@ABCDEFGHIJKLMNOPQRSTUVWXYZ\\^_`abcdefghijklmnopqrstuvwxyz|~"
def AsE (B : Nat) (l : List Nat) : Prop := l.length ≤ B ∧ ∀ c ∈ l, c < 128 ∧ c ≠ 10
instance {B : Nat} {l : List Nat} : Decidable (AsE B l) := inferInstanceAs (Decidable (_ ∧ _))
theorem AsE.app {A B C : Nat} {k l : List Nat} (h : AsE A k) (h2 : AsE B l) (hC : A + B ≤ C) : AsE C (k ++ l) :=
  ⟨by rw [List.length_append]; have := h.1; have := h2.1; omega, fun c m => (List.mem_append.mp m).elim (h.2 c) (h2.2 c)⟩
theorem WdE.as {l : List Nat} (h : WdE l) : AsE 5 l := ⟨h.len, fun c m => by
  have := h.all c m
  unfold wcE at this
  simp only [Bool.and_eq_true, decide_eq_true_eq] at this
  exact ⟨this.1.1.1, this.1.1.2⟩⟩
def RmE (l : List Nat) : Prop := AsE 6 l ∧ ∀ d : Int, 0 ≤ d → dpL (cdL l) d = some d
def MdE (l : List Nat) : Prop := AsE 3 l ∧ ∀ (y : List Nat) (d : Int), 0 ≤ d → dpL (cdL (l ++ y)) d = dpL (cdL y) d
def KpE (l : List Nat) : Prop := RwE l ∧ ∀ d : Int, 0 ≤ d → dpL (cdL l) d = some d
theorem AsE.rw {B : Nat} {l : List Nat} (h : AsE B l) (hB : B ≤ 16) : RwE l := ⟨by have := h.1; omega, h.2⟩
def FiE (r : List Nat) : Prop := AsE 6 r ∧ bgL (rsL r) = false
def upD (d : PyData) : PyData := match d with
  | .tuple [.int n, x, y] => .tuple [.int (n + 1), x, y]
  | d => d
end Pz
set_option maxRecDepth 100000
namespace Pz
open PySem PySem.Spec PyProof.Rows L2 TL
variable [PenC]
def apZ (x : Bool) (w : Int) (z : Str) : List Nat := if x = true then indL [] (colZ w z).toNat else indL (List.replicate (colZ w z / w).toNat 0) (colZ w z % w).toNat
def cvB (x : Bool) (w i j : Int) : Int → List Str → List (List Nat)
  | _, [] => []
  | k, z :: r => (if i ≤ k ∧ k ≤ j then apZ x w z else tl z) :: cvB x w i j (k + 1) r
def isEx (o : Str) : Bool := decide (o = Str.ofString "expand")
def OpW (o : Str) : Prop := o = Str.ofString "expand" ∨ o = Str.ofString "collapse"
def cvF (o : Str) (w i j : Int) (d : PyData) : PyData := match d with
  | .tuple [.int k, .str z] => .str (SX.S (if i ≤ k ∧ k ≤ j then apZ (isEx o) w z else tl z))
  | d => d
def pgT (ps : List Pcs) (os : List (List Nat)) : List Nat := TL.joinL [10] ((subP ps os).map fun x => x.1)
theorem subP_sub : ∀ (ps : List Pcs) (os os' : List (List Nat)), (∀ x ∈ ps, PcW x) → (ps.flatMap fun x => x.2).length = os.length → os'.length = os.length → subP (subP ps os) os' = subP ps os'
  | [], os, os', _, h, h2 => by
    have e1 : os = [] := List.length_eq_zero_iff.mp (by simpa using h.symm)
    subst e1
    simp [subP]
  | (p, e) :: ps, os, os', hw, h, h2 => by
    have hw2 : ∀ x ∈ ps, PcW x := fun x m => hw x (List.mem_cons_of_mem _ m)
    rcases (hw (p, e) List.mem_cons_self).2 with he | ⟨l, w, he, hp, hl, hl2, hn⟩
    · dsimp only at he
      subst he
      rw [subP, subP, subP, subP_sub ps os os' hw2 (by simpa using h) h2]
    · dsimp only at he
      subst he
      cases os with
      | nil => simp at h
      | cons o os =>
        cases os' with
        | nil => simp at h2
        | cons o' os' =>
          rw [subP, subP, subP, subP_sub ps os os' hw2 (by simpa using h) (by simpa using h2)]
theorem conv_T {ps : List Pcs} {os os' : List (List Nat)} (hw : ∀ x ∈ ps, PcW x) (h : (ps.flatMap fun x => x.2).length = os.length) (h2 : os'.length = os.length) (hc : os.length ≤ 20) (ho : ∀ o ∈ os, blankL o ∧ o.length ≤ 1000) (ho' : ∀ o ∈ os', blankL o ∧ o.length ≤ 1000) :
    TL.joinL [10] (replL (rowsL (pgT ps os)) (lnS (pgT ps os)) os') = pgT ps os' := by
  obtain ⟨g1, g2, g3, g4⟩ := subP_ok ps os hw h ho
  have hl : ((subP ps os).flatMap fun x => x.2).length = os.length := by rw [← congrArg List.length g2, List.length_map]
  have := page_repl g1 (os := os') (by rw [hl, h2]) (by omega) ho'
  rw [subP_sub ps os os' hw h h2] at this
  exact this
structure PgOk (ps : List Pcs) (n : Nat) : Prop where
  hw : ∀ x ∈ ps, PcW x
  len : (ps.flatMap fun x => x.2).length = n
  le : n ≤ 20
  pl : ps.length ≤ 100
  hb : ∀ x ∈ ps, x.1.length ≤ 1100 ∧ ∀ c ∈ x.1, c < 0x110000
def LdOk (n : Nat) (os : List (List Nat)) : Prop := os.length = n ∧ ∀ o ∈ os, blankL o ∧ o.length ≤ 1000
theorem PgOk.all {ps : List Pcs} {n : Nat} {os : List (List Nat)} (h : PgOk ps n) (ho : LdOk n os) : (SX.S (pgT ps os)).length ≤ 200000 ∧ PyData.strOk (SX.S (pgT ps os)) = true ∧ okTx (pgT ps os) ∧ inS (pgT ps os) = os.map SX.S :=
  page_sub h.hw (by rw [h.len, ho.1]) (by rw [ho.1]; exact h.le) ho.2 h.pl h.hb
theorem PgOk.conv {ps : List Pcs} {n : Nat} {os os' : List (List Nat)} (h : PgOk ps n) (ho : LdOk n os) (ho' : LdOk n os') : TL.joinL [10] (replL (rowsL (pgT ps os)) (lnS (pgT ps os)) os') = pgT ps os' :=
  conv_T h.hw (by rw [h.len, ho.1]) (by rw [ho.1, ho'.1]) (by rw [ho.1]; exact h.le) ho.2 ho'.2
def nmD (d : PyData) : PyData := match d with
  | .tuple [a, _, c] => .tuple [a, c]
  | d => d
def nmL (x : Ln) : PyData := .tuple [.int (x.1 : Nat), .str (SX.S x.2.2)]
end Pz
set_option maxRecDepth 100000
namespace Pz
open PySem PySem.Spec PyProof.Rows L2 TL
variable [PenC]
def wiA (d e : PyData) : Ans := match lgD d with
  | .err c fs => .err c fs
  | .ok ls => match d, e with
    | .str z, .list os => if os.length = ls.length ∧ (os.all isInd) = true then .ok (.str (SX.S (TL.joinL [10] (replL (rowsL (tl z)) ls (os.map fun d => tl (toZ d)))))) else .err "InvalidText" []
    | _, _ => .err "InvalidText" []
def ItO (x : PyData) : Prop := RepP 11000 1 x ∧ ∀ z, x = .str z → z.length ≤ 1001
structure OdD (n : Nat) (d : PyData) : Prop where
  rp : RepZ d ∨ RepOk d
  bad : ∀ os, d = .list os → ¬ (os.length = n ∧ (os.all isInd) = true)
  ln : ∀ os, d = .list os → os.length ≤ 1000000 ∧ ∀ x ∈ os, ∀ z, x = .str z → z.length ≤ 1000000
def ldE (ps : List Pcs) : List (List Nat) := (ps.flatMap fun x => x.2).map fun x => x.1
def zuF (d : PyData) : PyData := match d with
  | .tuple [.tuple [n, _, y], b] => .tuple [n, b, y]
  | d => d
def snF (d : PyData) : PyData := match d with
  | .tuple [_, b, _] => b
  | d => d
end Pz
set_option maxRecDepth 100000
namespace Pz
open PySem PySem.Spec PyProof.Rows L2 TL
variable [PenC]
structure ScS where
  num : Nat
  dep : Int
  is : Bool
  rm : Bool
  st : List Nat
def rm1 (c : Nat) (s : ScS) : Bool := if c = 35 then true else if c = 10 then false else s.rm
def sc1 (c : Nat) (s : ScS) : ScS where
  num := if c = 10 then s.num + 1 else s.num
  is := if c = 10 then true else if blC c = true then s.is else false
  rm := rm1 c s
  st := if c ≠ 10 ∧ s.is = true ∧ blC c = false ∧ s.dep = 0 ∧ c ≠ 35 then s.st ++ [s.num] else s.st
  dep := if rm1 c s = true then s.dep else s.dep + stp c
def scA : ScS → List Nat → List Nat × Option Nat
  | s, [] => (s.st, if 0 < s.dep then some s.num else none)
  | s, c :: l => if (sc1 c s).dep < 0 then ((sc1 c s).st, some (sc1 c s).num) else scA (sc1 c s) l
abbrev begS (d : Int) (n : Nat) (r : List Nat) : List Nat := if d = 0 ∧ bgL (rsL r) = true then [n] else []
def rsc : Nat → Int → List Nat → List (List Nat) → List Nat × Option Nat
  | n, d, st, [] => (st, if 0 < d then some (n - 1) else none)
  | n, d, st, r :: rs => match dpL (cdL r) d with
    | none => (st ++ begS d n r, some n)
    | some d' => rsc (n + 1) d' (st ++ begS d n r) rs
end Pz
set_option maxRecDepth 100000
namespace Pz
open PySem PySem.Spec PyProof.Rows L2 TL
variable [PenC]
def nxD (d : Int) (r : List Nat) : Int := (dpL (cdL r) d).getD 0
def tkG : Int → List (List Nat) → List (List Nat)
  | _, [] => []
  | d, r :: rs => if 0 < d then r :: tkG (nxD d r) rs else []
def fnG : Int → Nat → List (List Nat) → List Ln
  | _, _, [] => []
  | d, n, r :: rs => (if ¬ 0 < d ∧ bgL (rsL r) = true then [(n, ldL r, TL.joinL [10] (rsL r :: tkG (nxD d r) rs))] else []) ++ fnG (nxD d r) (n + 1) rs
def addAll (f : List Ln) (T : List (List Nat)) : List Ln := T.foldl (fun f l => addL l f) f
def edD : Int → List (List Nat) → Option Int
  | d, [] => some d
  | d, r :: rs => (dpL (cdL r) d).bind fun d' => edD d' rs
end Pz
set_option maxRecDepth 100000
namespace Pz
open PySem PySem.Spec PyProof.Rows L2 TL
variable [PenC]
abbrev prS (x : Nat × Nat) : PyData := .tuple [.int (x.1 : Nat), .int (x.2 : Nat)]
def badS : Option Nat → PyData
  | some n => .int (n : Nat)
  | none => .none
abbrev scZ (l : List Nat) : List Nat × Option Nat := scA ⟨0, 0, true, false, []⟩ l
def dueX (d : PyData) : PyData := match lgD d with
  | .ok ls => .list [.list (ls.map lnD)]
  | .err c fs => (hrdB c fs).getD .none
theorem cutS_lens (z : Str) {a : Int} (ha : 0 ≤ a) : (cutS z none (some a)).length ≤ a.toNat ∧ (cutS z none (some a)).length ≤ z.length ∧ (cutS z (some a) none).length = z.length - a.toNat := by
  refine ⟨?_, ?_, ?_⟩
  · rw [Pz.len_tl, tl_cutS, cut_hi ha]; omega
  · rw [Pz.len_tl, tl_cutS, cut_hi ha, ← Pz.len_tl]; omega
  · rw [Pz.len_tl, tl_cutS, cut_drop ha, List.length_drop, ← Pz.len_tl]
end Pz
set_option maxRecDepth 100000
set_option maxHeartbeats 0
namespace Lw
open PySem PySem.Spec PyProof.Rows L2 TL Pz
variable [TTC]
local instance : PenC := penE TTC.tt (kw := False)
def topS (i : Nat) : Stmt := PySem.Challenge.pw_tabprism_k58_never_and_too_many.main.body.getD i (.Pass ⟨0, 0, 0, 0⟩)
abbrev s_column : Stmt := topS 5
abbrev N_column : List Str := ["indent", "width", "found", "char"]
theorem st_column {a0 a1 : Sl} : startS N_column [a0, a1] = [some a0, some a1, none, none] := rfl
theorem sc_column : FnScope N_column ["indent", "width"] (defScope s_column) := ⟨rfl, rfl, rfl, by decide +kernel, rfl, by decide +kernel, by decide +kernel⟩
abbrev s__law_pen : Stmt := topS 13
abbrev N__law_pen : List Str := ["_law_script"]
theorem st__law_pen {a0 : Sl} : startS N__law_pen [a0] = [some a0] := rfl
theorem sc__law_pen : FnScope N__law_pen ["_law_script"] (defScope s__law_pen) := ⟨rfl, rfl, rfl, by decide +kernel, rfl, by decide +kernel, by decide +kernel⟩
abbrev s__law_draw : Stmt := topS 14
abbrev N__law_draw : List Str := ["_law_pen_here", "_law_many", "_law_at", "_law_cell", "_law_one", "_law_two", "_law_found", "_law_whole"]
theorem st__law_draw {a0 a1 : Sl} : startS N__law_draw [a0, a1] = [some a0, some a1, none, none, none, none, none, none] := rfl
theorem sc__law_draw : FnScope N__law_draw ["_law_pen_here", "_law_many"] (defScope s__law_draw) := ⟨rfl, rfl, rfl, by decide +kernel, rfl, by decide +kernel, by decide +kernel⟩
abbrev s__law_column : Stmt := topS 18
abbrev N__law_column : List Str := ["_law_lead", "_law_wide", "_law_groups", "_law_group"]
theorem st__law_column {a0 a1 : Sl} : startS N__law_column [a0, a1] = [some a0, some a1, none, none] := rfl
theorem sc__law_column : FnScope N__law_column ["_law_lead", "_law_wide"] (defScope s__law_column) := ⟨rfl, rfl, rfl, by decide +kernel, rfl, by decide +kernel, by decide +kernel⟩
abbrev s__law_told : Stmt := topS 22
abbrev N__law_told : List Str := ["_law_ask", "_law_caught", "_law_found", "error"]
theorem st__law_told {a0 : Sl} : startS N__law_told [a0] = [some a0, none, none, none] := rfl
theorem sc__law_told : FnScope N__law_told ["_law_ask"] (defScope s__law_told) := ⟨rfl, rfl, rfl, by decide +kernel, rfl, by decide +kernel, by decide +kernel⟩
abbrev s_moved : Stmt := topS 8
abbrev N_moved : List Str := ["state", "word", "width", "limit", "found", "indent", "place", "tabs", "spaces"]
theorem st_moved {a0 a1 a2 a3 : Sl} : startS N_moved [a0, a1, a2, a3] = [some a0, some a1, some a2, some a3, none, none, none, none, none] := rfl
theorem sc_moved : FnScope N_moved ["state", "word", "width", "limit"] (defScope s_moved) := ⟨rfl, rfl, rfl, by decide +kernel, rfl, by decide +kernel, by decide +kernel⟩
abbrev s__law_size : Stmt := topS 15
abbrev N__law_size : List Str := ["_law_pen_here", "_law_most", "_law_some"]
theorem st__law_size {a0 a1 : Sl} : startS N__law_size [a0, a1] = [some a0, some a1, none] := rfl
theorem sc__law_size : FnScope N__law_size ["_law_pen_here", "_law_most"] (defScope s__law_size) := ⟨rfl, rfl, rfl, by decide +kernel, rfl, by decide +kernel, by decide +kernel⟩
abbrev s__law_moves : Stmt := topS 20
abbrev N__law_moves : List Str := ["_law_state_here", "_law_wides", "_law_most", "_law_found", "_law_wide", "_law_places", "_law_tabs", "_law_lead", "_law_place"]
theorem st__law_moves {a0 a1 a2 : Sl} : startS N__law_moves [a0, a1, a2] = [some a0, some a1, some a2, none, none, none, none, none, none] := rfl
theorem sc__law_moves : FnScope N__law_moves ["_law_state_here", "_law_wides", "_law_most"] (defScope s__law_moves) := ⟨rfl, rfl, rfl, by decide +kernel, rfl, by decide +kernel, by decide +kernel⟩
abbrev s_moves : Stmt := topS 9
abbrev N_moves : List Str := ["state", "widths", "limit", "found", "word", "made", "width", "operation", "later"]
theorem st_moves {a0 a1 a2 : Sl} : startS N_moves [a0, a1, a2] = [some a0, some a1, some a2, none, none, none, none, none, none] := rfl
theorem sc_moves : FnScope N_moves ["state", "widths", "limit"] (defScope s_moves) := ⟨rfl, rfl, rfl, by decide +kernel, rfl, by decide +kernel, by decide +kernel⟩
abbrev s__law_any : Stmt := topS 16
abbrev N__law_any : List Str := ["_law_pen_here", "_law_most", "_law_groups", "_law_k"]
theorem st__law_any {a0 a1 : Sl} : startS N__law_any [a0, a1] = [some a0, some a1, none, none] := rfl
theorem sc__law_any : FnScope N__law_any ["_law_pen_here", "_law_most"] (defScope s__law_any) := ⟨rfl, rfl, rfl, by decide +kernel, rfl, by decide +kernel, by decide +kernel⟩
abbrev s__law_layers : Stmt := topS 21
abbrev N__law_layers : List Str := ["_law_begin", "_law_wides", "_law_most", "_law_known", "_law_found", "_law_later", "_law_state_here", "_law_way", "_law_made"]
theorem st__law_layers {a0 a1 a2 : Sl} : startS N__law_layers [a0, a1, a2] = [some a0, some a1, some a2, none, none, none, none, none, none] := rfl
theorem sc__law_layers : FnScope N__law_layers ["_law_begin", "_law_wides", "_law_most"] (defScope s__law_layers) := ⟨rfl, rfl, rfl, by decide +kernel, rfl, by decide +kernel, by decide +kernel⟩
abbrev s_next_layer : Stmt := topS 10
abbrev N_next_layer : List Str := ["layer", "found", "widths", "limit", "later", "state", "operation", "made"]
theorem st_next_layer {a0 a1 a2 a3 : Sl} : startS N_next_layer [a0, a1, a2, a3] = [some a0, some a1, some a2, some a3, none, none, none, none] := rfl
theorem sc_next_layer : FnScope N_next_layer ["layer", "found", "widths", "limit"] (defScope s_next_layer) := ⟨rfl, rfl, rfl, by decide +kernel, rfl, by decide +kernel, by decide +kernel⟩
abbrev s__law_state : Stmt := topS 19
abbrev N__law_state : List Str := ["_law_pen_here", "_law_many", "_law_most", "_law_found", "_law_k", "_law_some", "_law_elder"]
theorem st__law_state {a0 a1 a2 : Sl} : startS N__law_state [a0, a1, a2] = [some a0, some a1, some a2, none, none, none, none] := rfl
theorem sc__law_state : FnScope N__law_state ["_law_pen_here", "_law_many", "_law_most"] (defScope s__law_state) := ⟨rfl, rfl, rfl, by decide +kernel, rfl, by decide +kernel, by decide +kernel⟩
abbrev s_shortest_conversion : Stmt := topS 11
abbrev N_shortest_conversion : List Str := ["start", "goal", "widths", "limit", "found", "layers", "operations", "operation"]
theorem st_shortest_conversion {a0 a1 a2 a3 : Sl} : startS N_shortest_conversion [a0, a1, a2, a3] = [some a0, some a1, some a2, some a3, none, none, none, none] := rfl
theorem sc_shortest_conversion : FnScope N_shortest_conversion ["start", "goal", "widths", "limit"] (defScope s_shortest_conversion) := ⟨rfl, rfl, rfl, by decide +kernel, rfl, by decide +kernel, by decide +kernel⟩
abbrev s__law_right : Stmt := topS 23
abbrev N__law_right : List Str := ["_law_begin", "_law_wides", "_law_most", "_law_aims", "_law_known", "_law_layer", "_law_aim", "_law_told_here"]
theorem st__law_right {a0 a1 a2 a3 : Sl} : startS N__law_right [a0, a1, a2, a3] = [some a0, some a1, some a2, some a3, none, none, none, none] := rfl
theorem sc__law_right : FnScope N__law_right ["_law_begin", "_law_wides", "_law_most", "_law_aims"] (defScope s__law_right) := ⟨rfl, rfl, rfl, by decide +kernel, rfl, by decide +kernel, by decide +kernel⟩
abbrev s_law : Stmt := topS 24
abbrev N_law : List Str := ["_law_script", "_law_pen_here", "_law_few", "_law_begin", "_law_wides", "_law_aims"]
theorem st_law {a0 : Sl} : startS N_law [a0] = [some a0, none, none, none, none, none] := rfl
theorem sc_law : FnScope N_law ["_law_script"] (defScope s_law) := ⟨rfl, rfl, rfl, by decide +kernel, rfl, by decide +kernel, by decide +kernel⟩
structure Tx (K : Frag) (mg : Str → Option Value) (base : Heap) (f_column f__law_pen f__law_draw f__law_column f__law_told f_moved f__law_size f__law_moves f_moves f__law_any f__law_layers f_next_layer f__law_state f_shortest_conversion f__law_right f_law : Addr) (fd_column fd__law_pen fd__law_draw fd__law_column fd__law_told fd_moved fd__law_size fd__law_moves fd_moves fd__law_any fd__law_layers fd_next_layer fd__law_state fd_shortest_conversion fd__law_right fd_law : FuncData) (e__law_right : Addr) : Prop where
  d_shortest_conversion : FAtK K mg "shortest_conversion" s_shortest_conversion [("limit", .int 64)] f_shortest_conversion fd_shortest_conversion
  d_column : FAt K mg "column" s_column ["indent", "width"] f_column fd_column
  d__law_pen : FAt K mg "_law_pen" s__law_pen ["_law_script"] f__law_pen fd__law_pen
  d__law_draw : FAt K mg "_law_draw" s__law_draw ["_law_pen_here", "_law_many"] f__law_draw fd__law_draw
  d__law_column : FAt K mg "_law_column" s__law_column ["_law_lead", "_law_wide"] f__law_column fd__law_column
  d__law_told : FAt K mg "_law_told" s__law_told ["_law_ask"] f__law_told fd__law_told
  d_moved : FAt K mg "moved" s_moved ["state", "word", "width", "limit"] f_moved fd_moved
  d__law_size : FAt K mg "_law_size" s__law_size ["_law_pen_here", "_law_most"] f__law_size fd__law_size
  d__law_moves : FAt K mg "_law_moves" s__law_moves ["_law_state_here", "_law_wides", "_law_most"] f__law_moves fd__law_moves
  d_moves : FAt K mg "moves" s_moves ["state", "widths", "limit"] f_moves fd_moves
  d__law_any : FAt K mg "_law_any" s__law_any ["_law_pen_here", "_law_most"] f__law_any fd__law_any
  d__law_layers : FAt K mg "_law_layers" s__law_layers ["_law_begin", "_law_wides", "_law_most"] f__law_layers fd__law_layers
  d_next_layer : FAt K mg "next_layer" s_next_layer ["layer", "found", "widths", "limit"] f_next_layer fd_next_layer
  d__law_state : FAt K mg "_law_state" s__law_state ["_law_pen_here", "_law_many", "_law_most"] f__law_state fd__law_state
  d__law_right : FAtC K mg "_law_right" s__law_right ["_law_begin", "_law_wides", "_law_most", "_law_aims"] f__law_right fd__law_right e__law_right
  l__law_right : LamAt base mg e__law_right (qLam "_law_right")
  d_law : FAt K mg "law" s_law ["_law_script"] f_law fd_law
  b_abs : mg "abs" = none
  b_divmod : mg "divmod" = none
  b_int : mg "int" = none
  b_isinstance : mg "isinstance" = none
  b_len : mg "len" = none
  b_list : mg "list" = none
  b_max : mg "max" = none
  b_min : mg "min" = none
  b_range : mg "range" = none
  b_repr : mg "repr" = none
  b_sorted : mg "sorted" = none
  b_sum : mg "sum" = none
  b_tuple : mg "tuple" = none
  c_WORDS : ∃ a, mg "WORDS" = some (.ref a) ∧ KwT K a [V.str "expand", V.str "collapse"]
  xr : XRel K mg ["TooMany"] ["TooLong", "TooMany", "OverflowError"] ["count"]
  mk_TooMany : Mk1 K mg "TooMany" "count"
  c_MOST_STATES : ∃ t, mg "MOST_STATES" = some (.int 400 t)
variable {P : Program} {w : World} {K : Frag} {mg : Str → Option Value} {base : Heap} {f_column f__law_pen f__law_draw f__law_column f__law_told f_moved f__law_size f__law_moves f_moves f__law_any f__law_layers f_next_layer f__law_state f_shortest_conversion f__law_right f_law : Addr} {fd_column fd__law_pen fd__law_draw fd__law_column fd__law_told fd_moved fd__law_size fd__law_moves fd_moves fd__law_any fd__law_layers fd_next_layer fd__law_state fd_shortest_conversion fd__law_right fd_law : FuncData} {e__law_right : Addr}
def sp_law : DSp := sp1 fun a cs Q Ed => ∃ ns, a = .f ns ∧ cs = [] ∧ Q (.d (.bool true)) []
theorem sp_ok : ∀ ns : List Int, ns.length ≤ 63 → (∀ z ∈ ns, Builtin.Int.intBits z ≤ 1048576) → sp_law [.f ns] [] (fun s _ => s = .d (.bool true)) fun _ _ _ => False := fun ns _ _ => ⟨ns, rfl, rfl, rfl⟩
theorem sb_TooMany_TooLong : subB (Str.ofString "TooMany") (Str.ofString "TooLong") = false := by decide +kernel
theorem sb_TooMany_TooMany : subB (Str.ofString "TooMany") (Str.ofString "TooMany") = true := by decide +kernel
theorem sb_TooMany_OverflowError : subB (Str.ofString "TooMany") (Str.ofString "OverflowError") = true := by decide +kernel
def F_column : FD := fun ss K => match ss with
  | [.d (.str z), .d (.int w)] => (blankL (tl z) ∧ z.length ≤ 1000000 ∧ 0 < w ∧ w ≤ 10 ^ 9) ∧ (K (.int (colR w (runsL (tl z)) 0 + (tailL (tl z) : Nat))))
  | _ => False
theorem fo_column : FOk F_column 2 := ⟨fun ss k h => by unfold F_column at h; split at h <;> first | exact ⟨rfl, rfl⟩ | exact h.elim, fun ss k k1 m h => by
  unfold F_column at h; split at h
  · exact ⟨h.1, by have h2 := h.2; revert h2; clear h; intro h2; first | exact m _ h2 | exact ⟨fun f e => m _ (h2.1 f e), fun f e => m _ (h2.2 f e)⟩ | (intros; apply m; apply h2 <;> assumption) | (obtain h2 := h2; split at h2 <;> split <;> first | exact m _ h2 | simp_all) | simp_all | grind⟩
  · exact h.elim⟩
abbrev sp_column : DSp := spF F_column
theorem ho_column {N : List Str} {m : Nat} {τ : DS} (h : ∀ (z : Str) (w : Int) (Qd : DK), (blankL (tl z) ∧ z.length ≤ 1000000 ∧ 0 < w ∧ w ≤ 10 ^ 9) → ((fun d => Qd (.d d) []) (.int (colR w (runsL (tl z)) 0 + (tailL (tl z) : Nat)))) → τ (end0 Qd) (startS N [.d (.str z), .d (.int w)]) []) : ∀ (ss : List Sl) (cs : Sto) (Qd : DK) (Ed : DXF), spF F_column ss cs Qd Ed → ss.length = m → cs.length = 0 ∧ τ (end0 Qd) (startS N ss) cs := hF fun ss Qd w => by
  unfold F_column at w; split at w
  · exact h _ _ Qd w.1 w.2
  · exact w.elim
abbrev sp__law_pen := sp_pen
def F__law_draw : FD := fun ss K => match ss with
  | [.d (.int m)] => (0 < m ∧ m < 2 ^ 64) ∧ (∀ r : Int, 0 ≤ r → r < m → K (.int r))
  | _ => False
theorem fo__law_draw : FOk F__law_draw 1 := ⟨fun ss k h => by unfold F__law_draw at h; split at h <;> first | exact ⟨rfl, rfl⟩ | exact h.elim, fun ss k k1 m h => by
  unfold F__law_draw at h; split at h
  · exact ⟨h.1, by have h2 := h.2; revert h2; clear h; intro h2; first | exact m _ h2 | exact ⟨fun f e => m _ (h2.1 f e), fun f e => m _ (h2.2 f e)⟩ | (intros; apply m; apply h2 <;> assumption) | (obtain h2 := h2; split at h2 <;> split <;> first | exact m _ h2 | simp_all) | simp_all | grind⟩
  · exact h.elim⟩
abbrev sp__law_draw : DSp := spQ 1 F__law_draw
theorem ho__law_draw {N : List Str} {m : Nat} {τ : DS} (h : ∀ (m : Int) (c : Ct) (n : Nat) (Qd : DK), Pen n c → n + 1 ≤ 1000000 → (0 < m ∧ m < 2 ^ 64) → (∀ r : Int, 0 ≤ r → r < m → (fun d => ∀ c', Pen (n + 1) c' → Qd (.d d) [c']) (.int r)) → τ (end1 Qd) (startS N [.o 0, .d (.int m)]) [c]) : ∀ (ss : List Sl) (cs : Sto) (Qd : DK) (Ed : DXF), spQ 1 F__law_draw ss cs Qd Ed → ss.length = m → cs.length = 1 ∧ τ (end1 Qd) (startS N ss) cs := hQ fun ss c n Qd p hn w => by
  unfold F__law_draw at w; split at w
  · exact h _ c n Qd p hn w.1 w.2
  · exact w.elim
def F__law_column : FD := fun ss K => match ss with
  | [.d (.str z), .d (.int w)] => (z.length ≤ 1000000 ∧ 0 < w ∧ w ≤ 10 ^ 9) ∧ (K (.int (colZ w z)))
  | _ => False
theorem fo__law_column : FOk F__law_column 2 := ⟨fun ss k h => by unfold F__law_column at h; split at h <;> first | exact ⟨rfl, rfl⟩ | exact h.elim, fun ss k k1 m h => by
  unfold F__law_column at h; split at h
  · exact ⟨h.1, by have h2 := h.2; revert h2; clear h; intro h2; first | exact m _ h2 | exact ⟨fun f e => m _ (h2.1 f e), fun f e => m _ (h2.2 f e)⟩ | (intros; apply m; apply h2 <;> assumption) | (obtain h2 := h2; split at h2 <;> split <;> first | exact m _ h2 | simp_all) | simp_all | grind⟩
  · exact h.elim⟩
abbrev sp__law_column : DSp := spF F__law_column
theorem ho__law_column {N : List Str} {m : Nat} {τ : DS} (h : ∀ (z : Str) (w : Int) (Qd : DK), (z.length ≤ 1000000 ∧ 0 < w ∧ w ≤ 10 ^ 9) → ((fun d => Qd (.d d) []) (.int (colZ w z))) → τ (end0 Qd) (startS N [.d (.str z), .d (.int w)]) []) : ∀ (ss : List Sl) (cs : Sto) (Qd : DK) (Ed : DXF), spF F__law_column ss cs Qd Ed → ss.length = m → cs.length = 0 ∧ τ (end0 Qd) (startS N ss) cs := hF fun ss Qd w => by
  unfold F__law_column at w; split at w
  · exact h _ _ Qd w.1 w.2
  · exact w.elim
def F__law_told : LAct → (PyData → Prop) → Prop := fun A K => A (fun c fs => c = Str.ofString "TooMany" ∧ ∃ d, fs.lookup (Str.ofString "count") = some d ∧ K (.tuple [.str (Str.ofString "many"), d])) (fun d => K d)
def F_moved : FD := fun ss K => match ss with
  | [.d (.tuple s), .d (.str o), .d (.int w), .d (.int m)] => ((∃ S : Sta, s = S.map (fun l => .str (SX.S l)) ∧ S.length ≤ 100 ∧ ∀ l ∈ S, blankL l ∧ l.length ≤ 1000) ∧ (o = Str.ofString "expand" ∨ o = Str.ofString "collapse") ∧ 1 ≤ w ∧ w ≤ 1000 ∧ 0 ≤ m ∧ m ≤ 1000) ∧ (∀ S : Sta, s = S.map (fun l => .str (SX.S l)) → K (match mvS (decide (o = Str.ofString "expand")) w.toNat m.toNat S with | some t => staD t | none => .none))
  | _ => False
theorem fo_moved : FOk F_moved 4 := ⟨fun ss k h => by unfold F_moved at h; split at h <;> first | exact ⟨rfl, rfl⟩ | exact h.elim, fun ss k k1 m h => by
  unfold F_moved at h; split at h
  · exact ⟨h.1, by have h2 := h.2; revert h2; clear h; intro h2; first | exact m _ h2 | exact ⟨fun f e => m _ (h2.1 f e), fun f e => m _ (h2.2 f e)⟩ | (intros; apply m; apply h2 <;> assumption) | (obtain h2 := h2; split at h2 <;> split <;> first | exact m _ h2 | simp_all) | simp_all | grind⟩
  · exact h.elim⟩
abbrev sp_moved : DSp := spF F_moved
theorem ho_moved {N : List Str} {m : Nat} {τ : DS} (h : ∀ (s : List PyData) (o : Str) (w m : Int) (Qd : DK), ((∃ S : Sta, s = S.map (fun l => .str (SX.S l)) ∧ S.length ≤ 100 ∧ ∀ l ∈ S, blankL l ∧ l.length ≤ 1000) ∧ (o = Str.ofString "expand" ∨ o = Str.ofString "collapse") ∧ 1 ≤ w ∧ w ≤ 1000 ∧ 0 ≤ m ∧ m ≤ 1000) → (∀ S : Sta, s = S.map (fun l => .str (SX.S l)) → (fun d => Qd (.d d) []) (match mvS (decide (o = Str.ofString "expand")) w.toNat m.toNat S with | some t => staD t | none => .none)) → τ (end0 Qd) (startS N [.d (.tuple s), .d (.str o), .d (.int w), .d (.int m)]) []) : ∀ (ss : List Sl) (cs : Sto) (Qd : DK) (Ed : DXF), spF F_moved ss cs Qd Ed → ss.length = m → cs.length = 0 ∧ τ (end0 Qd) (startS N ss) cs := hF fun ss Qd w => by
  unfold F_moved at w; split at w
  · exact h _ _ _ _ Qd w.1 w.2
  · exact w.elim
def F__law_size : FD := fun ss K => match ss with
  | [.d (.int m)] => (0 ≤ m ∧ m ≤ 100) ∧ (∀ x, 0 ≤ x → x ≤ m → K (.int x))
  | _ => False
theorem fo__law_size : FOk F__law_size 1 := ⟨fun ss k h => by unfold F__law_size at h; split at h <;> first | exact ⟨rfl, rfl⟩ | exact h.elim, fun ss k k1 m h => by
  unfold F__law_size at h; split at h
  · exact ⟨h.1, by have h2 := h.2; revert h2; clear h; intro h2; first | exact m _ h2 | exact ⟨fun f e => m _ (h2.1 f e), fun f e => m _ (h2.2 f e)⟩ | (intros; apply m; apply h2 <;> assumption) | (obtain h2 := h2; split at h2 <;> split <;> first | exact m _ h2 | simp_all) | simp_all | grind⟩
  · exact h.elim⟩
abbrev sp__law_size : DSp := spQ 2 F__law_size
theorem ho__law_size {N : List Str} {m : Nat} {τ : DS} (h : ∀ (m : Int) (c : Ct) (n : Nat) (Qd : DK), Pen n c → n + 2 ≤ 1000000 → (0 ≤ m ∧ m ≤ 100) → (∀ x, 0 ≤ x → x ≤ m → (fun d => ∀ c', Pen (n + 2) c' → Qd (.d d) [c']) (.int x)) → τ (end1 Qd) (startS N [.o 0, .d (.int m)]) [c]) : ∀ (ss : List Sl) (cs : Sto) (Qd : DK) (Ed : DXF), spQ 2 F__law_size ss cs Qd Ed → ss.length = m → cs.length = 1 ∧ τ (end1 Qd) (startS N ss) cs := hQ fun ss c n Qd p hn w => by
  unfold F__law_size at w; split at w
  · exact h _ c n Qd p hn w.1 w.2
  · exact w.elim
def F__law_moves : FD := fun ss K => match ss with
  | [.d (.tuple s), .d (.list ws), .d (.int m)] => ((∃ S : Sta, s = S.map (fun l => .str (SX.S l)) ∧ 0 < S.length ∧ S.length ≤ 100 ∧ ∀ l ∈ S, blankL l ∧ l.length ≤ 1000) ∧ Ints (fun w => 1 ≤ w ∧ w ≤ 1000) ws ∧ ws.length ≤ 100 ∧ 0 ≤ m ∧ m ≤ 1000) ∧ (∀ S : Sta, s = S.map (fun l => .str (SX.S l)) → K (.list (mvD (mvL (ws.map toN) m.toNat S))))
  | _ => False
theorem fo__law_moves : FOk F__law_moves 3 := ⟨fun ss k h => by unfold F__law_moves at h; split at h <;> first | exact ⟨rfl, rfl⟩ | exact h.elim, fun ss k k1 m h => by
  unfold F__law_moves at h; split at h
  · exact ⟨h.1, by have h2 := h.2; revert h2; clear h; intro h2; first | exact m _ h2 | exact ⟨fun f e => m _ (h2.1 f e), fun f e => m _ (h2.2 f e)⟩ | (intros; apply m; apply h2 <;> assumption) | (obtain h2 := h2; split at h2 <;> split <;> first | exact m _ h2 | simp_all) | simp_all | grind⟩
  · exact h.elim⟩
abbrev sp__law_moves : DSp := spF F__law_moves
theorem ho__law_moves {N : List Str} {m : Nat} {τ : DS} (h : ∀ (s : List PyData) (ws : List PyData) (m : Int) (Qd : DK), ((∃ S : Sta, s = S.map (fun l => .str (SX.S l)) ∧ 0 < S.length ∧ S.length ≤ 100 ∧ ∀ l ∈ S, blankL l ∧ l.length ≤ 1000) ∧ Ints (fun w => 1 ≤ w ∧ w ≤ 1000) ws ∧ ws.length ≤ 100 ∧ 0 ≤ m ∧ m ≤ 1000) → (∀ S : Sta, s = S.map (fun l => .str (SX.S l)) → (fun d => Qd (.d d) []) (.list (mvD (mvL (ws.map toN) m.toNat S)))) → τ (end0 Qd) (startS N [.d (.tuple s), .d (.list ws), .d (.int m)]) []) : ∀ (ss : List Sl) (cs : Sto) (Qd : DK) (Ed : DXF), spF F__law_moves ss cs Qd Ed → ss.length = m → cs.length = 0 ∧ τ (end0 Qd) (startS N ss) cs := hF fun ss Qd w => by
  unfold F__law_moves at w; split at w
  · exact h _ _ _ Qd w.1 w.2
  · exact w.elim
def F_moves : FD := fun ss K => match ss with
  | [.d (.tuple s), .d (.list ws), .d (.int m)] => ((∃ S : Sta, s = S.map (fun l => .str (SX.S l)) ∧ S.length ≤ 100 ∧ ∀ l ∈ S, blankL l ∧ l.length ≤ 1000) ∧ Ints (fun w => 1 ≤ w ∧ w ≤ 1000) ws ∧ ws.length ≤ 100 ∧ 0 ≤ m ∧ m ≤ 1000) ∧ (∀ S : Sta, s = S.map (fun l => .str (SX.S l)) → K (.list (mvD (mvP (ws.map toN) m.toNat S))))
  | _ => False
theorem fo_moves : FOk F_moves 3 := ⟨fun ss k h => by unfold F_moves at h; split at h <;> first | exact ⟨rfl, rfl⟩ | exact h.elim, fun ss k k1 m h => by
  unfold F_moves at h; split at h
  · exact ⟨h.1, by have h2 := h.2; revert h2; clear h; intro h2; first | exact m _ h2 | exact ⟨fun f e => m _ (h2.1 f e), fun f e => m _ (h2.2 f e)⟩ | (intros; apply m; apply h2 <;> assumption) | (obtain h2 := h2; split at h2 <;> split <;> first | exact m _ h2 | simp_all) | simp_all | grind⟩
  · exact h.elim⟩
abbrev sp_moves : DSp := spF F_moves
theorem ho_moves {N : List Str} {m : Nat} {τ : DS} (h : ∀ (s : List PyData) (ws : List PyData) (m : Int) (Qd : DK), ((∃ S : Sta, s = S.map (fun l => .str (SX.S l)) ∧ S.length ≤ 100 ∧ ∀ l ∈ S, blankL l ∧ l.length ≤ 1000) ∧ Ints (fun w => 1 ≤ w ∧ w ≤ 1000) ws ∧ ws.length ≤ 100 ∧ 0 ≤ m ∧ m ≤ 1000) → (∀ S : Sta, s = S.map (fun l => .str (SX.S l)) → (fun d => Qd (.d d) []) (.list (mvD (mvP (ws.map toN) m.toNat S)))) → τ (end0 Qd) (startS N [.d (.tuple s), .d (.list ws), .d (.int m)]) []) : ∀ (ss : List Sl) (cs : Sto) (Qd : DK) (Ed : DXF), spF F_moves ss cs Qd Ed → ss.length = m → cs.length = 0 ∧ τ (end0 Qd) (startS N ss) cs := hF fun ss Qd w => by
  unfold F_moves at w; split at w
  · exact h _ _ _ Qd w.1 w.2
  · exact w.elim
def F__law_any : FD := fun ss K => match ss with
  | [.d (.int m)] => (0 ≤ m ∧ m ≤ 100) ∧ (∀ z : Str, GoodL m z → K (.str z))
  | _ => False
theorem fo__law_any : FOk F__law_any 1 := ⟨fun ss k h => by unfold F__law_any at h; split at h <;> first | exact ⟨rfl, rfl⟩ | exact h.elim, fun ss k k1 m h => by
  unfold F__law_any at h; split at h
  · exact ⟨h.1, by have h2 := h.2; revert h2; clear h; intro h2; first | exact m _ h2 | exact ⟨fun f e => m _ (h2.1 f e), fun f e => m _ (h2.2 f e)⟩ | (intros; apply m; apply h2 <;> assumption) | (obtain h2 := h2; split at h2 <;> split <;> first | exact m _ h2 | simp_all) | simp_all | grind⟩
  · exact h.elim⟩
abbrev sp__law_any : DSp := spQ 9 F__law_any
theorem ho__law_any {N : List Str} {m : Nat} {τ : DS} (h : ∀ (m : Int) (c : Ct) (n : Nat) (Qd : DK), Pen n c → n + 9 ≤ 1000000 → (0 ≤ m ∧ m ≤ 100) → (∀ z : Str, GoodL m z → (fun d => ∀ c', Pen (n + 9) c' → Qd (.d d) [c']) (.str z)) → τ (end1 Qd) (startS N [.o 0, .d (.int m)]) [c]) : ∀ (ss : List Sl) (cs : Sto) (Qd : DK) (Ed : DXF), spQ 9 F__law_any ss cs Qd Ed → ss.length = m → cs.length = 1 ∧ τ (end1 Qd) (startS N ss) cs := hQ fun ss c n Qd p hn w => by
  unfold F__law_any at w; split at w
  · exact h _ c n Qd p hn w.1 w.2
  · exact w.elim
def F__law_layers : FD := fun ss K => match ss with
  | [.d (.tuple s), .d (.list ws), .d (.int m)] => ((∃ S : Sta, s = S.map (fun l => .str (SX.S l)) ∧ 0 < S.length ∧ S.length ≤ 100 ∧ ∀ l ∈ S, blankL l ∧ l.length ≤ 1000) ∧ Ints (fun w => 1 ≤ w ∧ w ≤ 1000) ws ∧ ws.length ≤ 12 ∧ 0 ≤ m ∧ m ≤ 1000) ∧ (∀ S : Sta, s = S.map (fun l => .str (SX.S l)) → ∀ n, StopS (ws.map toN) m.toNat S n → K (.list ((List.range (n + 1)).map fun i => .list ((lyS (ws.map toN) m.toNat S i).map staD))))
  | _ => False
theorem fo__law_layers : FOk F__law_layers 3 := ⟨fun ss k h => by unfold F__law_layers at h; split at h <;> first | exact ⟨rfl, rfl⟩ | exact h.elim, fun ss k k1 m h => by
  unfold F__law_layers at h; split at h
  · exact ⟨h.1, by have h2 := h.2; revert h2; clear h; intro h2; first | exact m _ h2 | exact ⟨fun f e => m _ (h2.1 f e), fun f e => m _ (h2.2 f e)⟩ | (intros; apply m; apply h2 <;> assumption) | (obtain h2 := h2; split at h2 <;> split <;> first | exact m _ h2 | simp_all) | simp_all | grind⟩
  · exact h.elim⟩
abbrev sp__law_layers : DSp := spF F__law_layers
theorem ho__law_layers {N : List Str} {m : Nat} {τ : DS} (h : ∀ (s : List PyData) (ws : List PyData) (m : Int) (Qd : DK), ((∃ S : Sta, s = S.map (fun l => .str (SX.S l)) ∧ 0 < S.length ∧ S.length ≤ 100 ∧ ∀ l ∈ S, blankL l ∧ l.length ≤ 1000) ∧ Ints (fun w => 1 ≤ w ∧ w ≤ 1000) ws ∧ ws.length ≤ 12 ∧ 0 ≤ m ∧ m ≤ 1000) → (∀ S : Sta, s = S.map (fun l => .str (SX.S l)) → ∀ n, StopS (ws.map toN) m.toNat S n → (fun d => Qd (.d d) []) (.list ((List.range (n + 1)).map fun i => .list ((lyS (ws.map toN) m.toNat S i).map staD)))) → τ (end0 Qd) (startS N [.d (.tuple s), .d (.list ws), .d (.int m)]) []) : ∀ (ss : List Sl) (cs : Sto) (Qd : DK) (Ed : DXF), spF F__law_layers ss cs Qd Ed → ss.length = m → cs.length = 0 ∧ τ (end0 Qd) (startS N ss) cs := hF fun ss Qd w => by
  unfold F__law_layers at w; split at w
  · exact h _ _ _ Qd w.1 w.2
  · exact w.elim
abbrev sp_next_layer : DSp := sp4 fun a b c d cs Q Ed => ∃ (L : List Sta) (X : List (Sta × PyData)) (ws : List PyData) (m : Int) (k : Nat), a = .d (.list (L.map staD)) ∧ b = .o 0 ∧ c = .d (.list ws) ∧ d = .d (.int m) ∧ cs = [.dT (gsD X)] ∧ ((∀ t ∈ L, StOk k 1000 t) ∧ 0 < k ∧ k ≤ 100 ∧ L.length ≤ 400 ∧ X.length ≤ 20000 ∧ Ints (fun w => 1 ≤ w ∧ w ≤ 1000) ws ∧ ws.length ≤ 12 ∧ 0 ≤ m ∧ m ≤ 1000) ∧ ∀ D : List (Sta × PyData), D.map (·.1) = newS (X.map (·.1)) (L.flatMap (sucS (ws.map toN) m.toNat)) → (∀ e ∈ D, ∃ p ∈ L, ∃ op, e.2 = .tuple [staD p, op]) → Q (.d (.list ((srtS (newS (X.map (·.1)) (L.flatMap (sucS (ws.map toN) m.toNat)))).map staD))) [.dT (gsD (X ++ D))]
def F__law_state : FD := fun ss K => match ss with
  | [.d (.int k), .d (.int m)] => (1 ≤ k ∧ k ≤ 3 ∧ 0 ≤ m ∧ m ≤ 1000) ∧ (∀ S : Sta, (S.length : Int) = k → (∀ l ∈ S, blankL l ∧ (l.length : Int) ≤ m) → K (staD S))
  | _ => False
theorem fo__law_state : FOk F__law_state 2 := ⟨fun ss k h => by unfold F__law_state at h; split at h <;> first | exact ⟨rfl, rfl⟩ | exact h.elim, fun ss k k1 m h => by
  unfold F__law_state at h; split at h
  · exact ⟨h.1, by have h2 := h.2; revert h2; clear h; intro h2; first | exact m _ h2 | exact ⟨fun f e => m _ (h2.1 f e), fun f e => m _ (h2.2 f e)⟩ | (intros; apply m; apply h2 <;> assumption) | (obtain h2 := h2; split at h2 <;> split <;> first | exact m _ h2 | simp_all) | simp_all | grind⟩
  · exact h.elim⟩
abbrev sp__law_state : DSp := spQ 100 F__law_state
theorem ho__law_state {N : List Str} {m : Nat} {τ : DS} (h : ∀ (k m : Int) (c : Ct) (n : Nat) (Qd : DK), Pen n c → n + 100 ≤ 1000000 → (1 ≤ k ∧ k ≤ 3 ∧ 0 ≤ m ∧ m ≤ 1000) → (∀ S : Sta, (S.length : Int) = k → (∀ l ∈ S, blankL l ∧ (l.length : Int) ≤ m) → (fun d => ∀ c', Pen (n + 100) c' → Qd (.d d) [c']) (staD S)) → τ (end1 Qd) (startS N [.o 0, .d (.int k), .d (.int m)]) [c]) : ∀ (ss : List Sl) (cs : Sto) (Qd : DK) (Ed : DXF), spQ 100 F__law_state ss cs Qd Ed → ss.length = m → cs.length = 1 ∧ τ (end1 Qd) (startS N ss) cs := hQ fun ss c n Qd p hn w => by
  unfold F__law_state at w; split at w
  · exact h _ _ c n Qd p hn w.1 w.2
  · exact w.elim
def F_shortest_conversion : FDX := fun ss K R => match ss with
  | [.d (.tuple s), .d (.tuple g), .d (.list ws), .d (.int m)] => ((∃ S G : Sta, s = S.map (fun l => .str (SX.S l)) ∧ g = G.map (fun l => .str (SX.S l)) ∧ 0 < S.length ∧ S.length ≤ 100 ∧ ∀ l ∈ S, blankL l ∧ l.length ≤ 1000) ∧ Ints (fun w => 1 ≤ w ∧ w ≤ 1000) ws ∧ ws.length ≤ 12 ∧ 0 ≤ m ∧ m ≤ 1000) ∧ (∀ S G : Sta, s = S.map (fun l => .str (SX.S l)) → g = G.map (fun l => .str (SX.S l)) → ∀ n, StopS (ws.map toN) m.toNat S n → (400 < (knS (ws.map toN) m.toNat S n).length → R "TooMany" [("count", .int 400)]) ∧ ((knS (ws.map toN) m.toNat S n).length ≤ 400 → (G ∉ knS (ws.map toN) m.toNat S n → K (.tuple [.str (Str.ofString "never"), .list ((srtS (knS (ws.map toN) m.toNat S n)).map staD)])) ∧ (G ∈ knS (ws.map toN) m.toNat S n → ∀ ops lys : List PyData, K (.tuple [.str (Str.ofString "moves"), .list ops, .list lys]))))
  | _ => False
theorem fo_shortest_conversion : FOkX F_shortest_conversion 4 := ⟨fun ss k r h => by unfold F_shortest_conversion at h; split at h <;> first | exact ⟨rfl, rfl⟩ | exact h.elim, fun ss k k1 r r1 m mr h => by
  unfold F_shortest_conversion at h; split at h
  · exact ⟨h.1, by have h2 := h.2; revert h2; clear h; intro h2; first | exact m _ h2 | exact mr _ _ h2 | exact ⟨fun a => m _ (h2.1 a), fun a => mr _ _ (h2.2 a)⟩ | exact ⟨fun f e => m _ (h2.1 f e), fun f e => m _ (h2.2 f e)⟩ | (intros; apply m; apply h2 <;> assumption) | (obtain h2 := h2; split at h2 <;> split <;> first | exact m _ h2 | exact mr _ _ h2 | exact ⟨fun a => m _ (h2.1 a), fun a => mr _ _ (h2.2 a)⟩ | simp_all) | simp_all | grind⟩
  · exact h.elim⟩
abbrev sp_shortest_conversion : DSp := spX F_shortest_conversion
theorem ho_shortest_conversion {N : List Str} {m : Nat} {τ : DS} (h : ∀ (s g : List PyData) (ws : List PyData) (m : Int) (Qd : DK) (Ed : DXF), ((∃ S G : Sta, s = S.map (fun l => .str (SX.S l)) ∧ g = G.map (fun l => .str (SX.S l)) ∧ 0 < S.length ∧ S.length ≤ 100 ∧ ∀ l ∈ S, blankL l ∧ l.length ≤ 1000) ∧ Ints (fun w => 1 ≤ w ∧ w ≤ 1000) ws ∧ ws.length ≤ 12 ∧ 0 ≤ m ∧ m ≤ 1000) → (∀ S G : Sta, s = S.map (fun l => .str (SX.S l)) → g = G.map (fun l => .str (SX.S l)) → ∀ n, StopS (ws.map toN) m.toNat S n → (400 < (knS (ws.map toN) m.toNat S n).length → (fun c fs => Ed c fs []) "TooMany" [("count", .int 400)]) ∧ ((knS (ws.map toN) m.toNat S n).length ≤ 400 → (G ∉ knS (ws.map toN) m.toNat S n → (fun d => Qd (.d d) []) (.tuple [.str (Str.ofString "never"), .list ((srtS (knS (ws.map toN) m.toNat S n)).map staD)])) ∧ (G ∈ knS (ws.map toN) m.toNat S n → ∀ ops lys : List PyData, (fun d => Qd (.d d) []) (.tuple [.str (Str.ofString "moves"), .list ops, .list lys])))) → τ (endX Qd Ed) (startS N [.d (.tuple s), .d (.tuple g), .d (.list ws), .d (.int m)]) []) : ∀ (ss : List Sl) (cs : Sto) (Qd : DK) (Ed : DXF), spX F_shortest_conversion ss cs Qd Ed → ss.length = m → cs.length = 0 ∧ τ (endX Qd Ed) (startS N ss) cs := hX fun ss Qd Ed w => by
  unfold F_shortest_conversion at w; split at w
  · exact h _ _ _ _ Qd Ed w.1 w.2
  · exact w.elim
def F__law_right : FD := fun ss K => match ss with
  | [.d (.tuple s), .d (.list ws), .d (.int m), .d (.list as)] => ((∃ S : Sta, s = S.map (fun l => .str (SX.S l)) ∧ 0 < S.length ∧ S.length ≤ 3 ∧ ∀ l ∈ S, blankL l ∧ l.length ≤ 1000) ∧ Ints (fun w => 1 ≤ w ∧ w ≤ 1000) ws ∧ ws.length ≤ 12 ∧ 0 ≤ m ∧ m ≤ 1000 ∧ ∃ As : List Sta, as = As.map staD ∧ As.length ≤ 10 ∧ ∀ G ∈ As, StOk G.length 1000 G) ∧ (K (.bool true))
  | _ => False
theorem fo__law_right : FOk F__law_right 4 := ⟨fun ss k h => by unfold F__law_right at h; split at h <;> first | exact ⟨rfl, rfl⟩ | exact h.elim, fun ss k k1 m h => by
  unfold F__law_right at h; split at h
  · exact ⟨h.1, by have h2 := h.2; revert h2; clear h; intro h2; first | exact m _ h2 | exact ⟨fun f e => m _ (h2.1 f e), fun f e => m _ (h2.2 f e)⟩ | (intros; apply m; apply h2 <;> assumption) | (obtain h2 := h2; split at h2 <;> split <;> first | exact m _ h2 | simp_all) | simp_all | grind⟩
  · exact h.elim⟩
abbrev sp__law_right : DSp := spF F__law_right
theorem ho__law_right {N : List Str} {m : Nat} {τ : DS} (h : ∀ (s ws : List PyData) (m : Int) (as : List PyData) (Qd : DK), ((∃ S : Sta, s = S.map (fun l => .str (SX.S l)) ∧ 0 < S.length ∧ S.length ≤ 3 ∧ ∀ l ∈ S, blankL l ∧ l.length ≤ 1000) ∧ Ints (fun w => 1 ≤ w ∧ w ≤ 1000) ws ∧ ws.length ≤ 12 ∧ 0 ≤ m ∧ m ≤ 1000 ∧ ∃ As : List Sta, as = As.map staD ∧ As.length ≤ 10 ∧ ∀ G ∈ As, StOk G.length 1000 G) → ((fun d => Qd (.d d) []) (.bool true)) → τ (end0 Qd) (startS N [.d (.tuple s), .d (.list ws), .d (.int m), .d (.list as)]) []) : ∀ (ss : List Sl) (cs : Sto) (Qd : DK) (Ed : DXF), spF F__law_right ss cs Qd Ed → ss.length = m → cs.length = 0 ∧ τ (end0 Qd) (startS N ss) cs := hF fun ss Qd w => by
  unfold F__law_right at w; split at w
  · exact h _ _ _ _ Qd w.1 w.2
  · exact w.elim
def g_kwe_shortest_conversion_3_limit {α : Type} (us mv ws : List α) : List α := match us, mv, ws with
  | [a0, a1, a2], [], [k0] => [a0, a1, a2, k0]
  | _, _, _ => []
theorem kwe_shortest_conversion_3_limit (T : Tx K mg base f_column f__law_pen f__law_draw f__law_column f__law_told f_moved f__law_size f__law_moves f_moves f__law_any f__law_layers f_next_layer f__law_state f_shortest_conversion f__law_right f_law fd_column fd__law_pen fd__law_draw fd__law_column fd__law_told fd_moved fd__law_size fd__law_moves fd_moves fd__law_any fd__law_layers fd_next_layer fd__law_state fd_shortest_conversion fd__law_right fd_law e__law_right) : KwE K fd_shortest_conversion ["start", "goal", "widths", "limit"] 3 ["limit"] (fun ss us => g_kwe_shortest_conversion_3_limit ss [] us) :=
  T.d_shortest_conversion.kwe 3 ["limit"] [] [] (fun us mv ws => g_kwe_shortest_conversion_3_limit us mv ws) (fun z => by cases z) (fun q m => by cases m)
    (fun {vs mz zs us mv ws} l1 l2 l3 r1 r2 r3 => by
      match vs, mz, zs, l1, l2, l3 with
      | [a0, a1, a2], [], [k0], _, _, _ =>
        obtain _ | ⟨x0, r1_0⟩ := r1; obtain _ | ⟨x1, r1_1⟩ := r1_0; obtain _ | ⟨x2, r1_2⟩ := r1_1; cases r1_2; cases r2; obtain _ | ⟨y0, r3_0⟩ := r3; cases r3_0
        exact (.cons x0 (.cons x1 (.cons x2 (.cons y0 .nil)))))
    (fun {Z vs zs ss us} l1 l2 r1 r2 => by
      match ss, us, l1, l2 with
      | [a0, a1, a2], [k0], _, _ =>
        obtain _ | ⟨x0, r1_0⟩ := r1; obtain _ | ⟨x1, r1_1⟩ := r1_0; obtain _ | ⟨x2, r1_2⟩ := r1_1; cases r1_2; obtain _ | ⟨y0, r2_0⟩ := r2; cases r2_0
        exact (.cons x0 (.cons x1 (.cons x2 (.cons y0 .nil)))))
    (fun D doc pm an cdv ct us mv ws l1 l2 l3 => by
      match us, mv, ws, l1, l2, l3 with
      | [a0, a1, a2], [], [k0], _, _, _ => exact rfl)
local macro_rules | `(tactic| nofun) => `(tactic| try simp -implicitDefEqProofs only [↓Pz.wC_ap, ↓Pz.wVar_ap, ↓Pz.wOp_ap, ↓Pz.wTest_ap, ↓Pz.wNil_ap, ↓Pz.wCons_ap, ↓Pz.wCall_ap, ↓Pz.wCallW_ap, ↓Pz.wApp_ap, ↓Pz.wLst_ap, ↓Pz.wTup_ap, ↓Pz.wLstO_ap, ↓Pz.wNoPart_ap, ↓Pz.wPart_ap, ↓Pz.wSl_ap, ↓Pz.wAnd_ap, ↓Pz.wOr_ap, ↓Pz.wNot_ap, ↓Pz.wAndV_ap, ↓Pz.wOrV_ap, ↓Pz.wNotV_ap, ↓Pz.wIfE_ap, ↓Pz.wTru_ap, ↓Pz.wChain_ap, ↓Pz.wNeg_ap, ↓Pz.wAug_ap, ↓Pz.gNm_ap, ↓Pz.gNl_ap, ↓Pz.gCn_ap, ↓Pz.gTp_ap, ↓Pz.wAsg_ap, ↓Pz.wItE_ap, ↓Pz.wRng1_ap, ↓Pz.wRng2_ap, ↓Pz.wYes_ap, ↓Pz.wLc_ap, ↓Pz.wLcO_ap, ↓Pz.wBM_ap, ↓Pz.wSetIx_ap, ↓Pz.wFrz_ap, ↓Pz.wCallF_ap, ↓Pz.wCallQ_ap, ↓Pz.wCallWF_ap, ↓Pz.wRev_ap, ↓Pz.wRg1_ap, ↓Pz.wRg2_ap, ↓Pz.wListRg_ap, ↓Pz.wRng3_ap, ↓Pz.wEnum_ap, ↓Pz.wZip_ap, ↓Pz.wCallQO_ap, ↓Pz.wDPut_ap, ↓Pz.wPNil_ap, ↓Pz.wPCons_ap, ↓Pz.wDisp_ap, ↓Pz.wDNew_ap, ↓Pz.wDNil_ap, ↓Pz.wEnumX_ap, ↓Pz.wCallE_ap, ↓Pz.wSlO_ap, ↓Pz.wEnumY_ap, ↓Pz.wDGet2_ap, ↓Pz.wMaxDf_ap, ↓Pz.wCallFO_ap, ↓Pz.wRevY_ap, ↓Pz.wFrzX_ap, ↓Pz.wSwp_ap, ↓Pz.wCallX_ap, ↓Pz.wCallXO_ap, ↓Pz.wCallWX_ap, ↓Pz.wRaise1_ap, ↓Pz.wRaise0_ap, ↓Pz.wTry_ap, ↓Pz.wIsE_ap, ↓Pz.wXf_ap, ↓Pz.wDispD_ap, ↓Pz.wSortLen_ap, ↓Pz.wGGet_ap, ↓Pz.wMinDf_ap, ↓Pz.wPar_ap, ↓Pz.wLam_ap, ↓Pz.wAct_ap, ↓Pz.wRep_ap, ↓Pz.wZipM_ap, ↓Pz.wLenSet_ap, ↓Pz.wBor_ap, ↓Pz.gTpL_ap, ↓Pz.wTupRg_ap, ↓Pz.wRevS_ap, ↓Pz.wFmt_ap, ↓Pz.wJoined_ap, ↓Pz.wAsgS_ap, ↓Pz.wPar3_ap, ↓Pz.wDc_ap, ↓Pz.wDGet3_ap, ↓Pz.wListV_ap, ↓Pz.wSumV_ap, ↓Pz.wDIn_ap, ↓Pz.wTGet2_ap, ↓Pz.wTPut_ap, ↓Pz.wDAug_ap, ↓Pz.wFrzL_ap, ↓Pz.wItV_ap, ↓Pz.wItI_ap, ↓Pz.wItK_ap, ↓Pz.wDisp1_ap, ↓Pz.wBorD_ap, ↓Pz.wDNewT_ap, ↓Pz.wCallFD_ap, ↓Pz.wDNew_ap, ↓Pz.wItC_ap, ↓Pz.wCallXE_ap, Pz.setAll, ↓Pz.wClose_ap, ↓Pz.wSetIxO_ap, ↓Pz.oIxS_ap, ↓Pz.wRaise3_ap, ↓Pz.oMulT_ap, Pz.dkX, Pz.unKD_kdD, Option.isSome_some, ↓Pz.wOrX_apS, ↓Pz.wAndX_apS, ↓Pz.orP_str, Pz.orP_some, Pz.orP_none, ↓oTGet, ↓oLtS, ↓oLtT, ↓fListKy, ↓fSortKy, ↓fLenD_o, ↓Pz.aFD, Pz.unD_K, Pz.unD_T, Pz.kyS_t, Pz.keysL_nil, Pz.keysL_ci, Pz.keysL_cs, ↓Pz.dtAt_o, Pz.dtAt_L, ↓Pz.dkAny_o, Pz.dkAny_D, Pz.dkAny_L, ↓Pz.dvAt_o, Pz.dvAt_D, Pz.dvAt_L, Pz.dvAt_T, ↓Pz.dkyS_o, Pz.dkyS_D, Pz.dkyS_L, Pz.dkyS_T, ↓Pz.dinS_o, Pz.dinS_D, Pz.dinS_L, Pz.dinS_T, Pz.lkP_K, Pz.lkP_T, ↓ret1_dT, cl_dt, Pz.lkOf_K, Pz.lkOf_T, Pz.xor_f, Pz.xor_t, Pz.hasD_int, Option.bind, Option.bind_some, List.set, ↓seq_mk, ↓wTrim_mk, trimS, List.take_succ_cons, List.take_zero, Nat.reduceLT, ↓nx_mk, ↓set_mk, ↓if_mk, nthS, ↓oEq, ↓oNe, vw, ↓oAdd, ↓oSub, ↓oIadd, ↓oDGet, keyOf_str, keyOf_int, keyS_str, keyS_int, ↓dkAt_o, valE_cells, valE_at, valE_left, putE_at, putE_left, mergeE, mergeD1, kvD1, keyD_s, keyD_i, ret1_dE, cl_dk, ↓fIsi, ↓fDivmod, ↓fStr, Pz.okT_int, Pz.is_int_none, Pz.is_int_bool, Pz.is_int_int, Pz.is_int_str, Pz.is_int_list, Pz.is_int_tuple, Pz.is_int_dict, Pz.okT_bool, Pz.is_bool_none, Pz.is_bool_bool, Pz.is_bool_int, Pz.is_bool_str, Pz.is_bool_list, Pz.is_bool_tuple, Pz.is_bool_dict, Pz.okT_str, Pz.is_str_none, Pz.is_str_bool, Pz.is_str_int, Pz.is_str_str, Pz.is_str_list, Pz.is_str_tuple, Pz.is_str_dict, Pz.okT_tuple, Pz.is_tuple_none, Pz.is_tuple_bool, Pz.is_tuple_int, Pz.is_tuple_str, Pz.is_tuple_list, Pz.is_tuple_tuple, Pz.is_tuple_dict, Pz.okT_list, Pz.is_list_none, Pz.is_list_bool, Pz.is_list_int, Pz.is_list_str, Pz.is_list_list, Pz.is_list_tuple, Pz.is_list_dict, Pz.okT_dict, Pz.is_dict_none, Pz.is_dict_bool, Pz.is_dict_int, Pz.is_dict_str, Pz.is_dict_list, Pz.is_dict_tuple, Pz.is_dict_dict, ↓oFdiv, ↓oMod, ↓oMul, ↓oPow, ↓oBool, ↓oII, ↓oIsN, ↓oNotN, ↓oIn, ↓oInX, ↓oInQ, ↓oInT, ↓oIsB, ↓oIsBN, ↓oNotB, noneS, ↓ret_mk, ↓retN_mk, ↓bk_mk, ↓ct_mk, ↓expr_mk, ↓for_mk, truD, ↓oIxE, ↓mPopAt, ↓mIndex, ↓mInsert, ↓fIntS, ↓fStrN, ↓Pz.wJs_cons, ↓Pz.wJs_nil, at0, at1, at2, at3, ix10, ix20, ix21, ix30, ix31, ix32, Pz.len1, Pz.len2, Pz.len3, List.length_nil, List.length_cons, sh_int, sh_bl, sh_non, Int.reduceEq, reduceCtorEq, decide_true, decide_false, sh_nil, eqv_nn, eqv_nilL, List.isEmpty_map, sh_lit, List.flatten_replicate_singleton, List.length_replicate, eqv_int, Nat.zero_le, szL, Nat.reduceLeDiff, Nat.reduceAdd, ↓ret1_d, ↓ret1_o0, ↓ret1_o1, ↓ret1_o2, ↓ret0_o0, ↓ret_d, cl_lst, true_and, and_true, decide_eq_true_eq, ↓oSl, ↓oSlO, ↓fLen, ↓fAbs, ↓fInt, ↓fMaxE, ↓fMinE, ↓fSumE, ↓fAll, ↓fAny, ↓fList, ↓fListO, ↓fListE, ↓fListEO, ↓fTuple, ↓fSortedE, ↓fSortedS, ↓fSortedG, ↓fRep, ↓fRepX, ↓fRepZ, ↓fRepW, ↓fBool, vwJ_l, vwJ_t, vwS_l, vwS_t, vwB, dsOf, tyD, ↓mAppend, ↓mExtend, ↓mPop, ↓mReverse, ↓mSplit, ↓mSplitO, ↓mStrip, ↓mLstrip, ↓mRstrip, ↓mStr2, ↓mPart, ↓mJoinE, frzS, frzX, ↓excOf_o, ↓oDGetX, List.map_cons, List.map_nil, List.getElem?_cons_zero, List.getElem?_cons_succ, List.cons_append, List.nil_append, Bool.false_eq_true, Bool.true_eq_false, ↓reduceIte, p10_3, p10_6, p10_7, p10_9, p10_12, Option.map, ↓aQ, ↓aQO, ↓aFO, borS, atomD, ↓aXO, ↓oAddO, ↓oMulO, Option.some.injEq, exists_eq_left', exists_and_left, datO, datQ_d, ↓mCount, ↓mCountS, Bool.not_true, Bool.not_false, ↓F_column, ↓F_moved, ↓F_moves, ↓F_shortest_conversion, ↓F__law_draw, ↓F__law_size, ↓F__law_any, ↓F__law_column, ↓F__law_state, ↓F__law_moves, ↓F__law_layers, ↓F__law_told, ↓F__law_right, g_kwe_shortest_conversion_3_limit]) | `(tactic| subst_eqs) => `(tactic| simp -implicitDefEqProofs only [↓Pz.wC_ap, ↓Pz.wVar_ap, ↓Pz.wOp_ap, ↓Pz.wTest_ap, ↓Pz.wNil_ap, ↓Pz.wCons_ap, ↓Pz.wCall_ap, ↓Pz.wCallW_ap, ↓Pz.wApp_ap, ↓Pz.wLst_ap, ↓Pz.wTup_ap, ↓Pz.wLstO_ap, ↓Pz.wNoPart_ap, ↓Pz.wPart_ap, ↓Pz.wSl_ap, ↓Pz.wAnd_ap, ↓Pz.wOr_ap, ↓Pz.wNot_ap, ↓Pz.wAndV_ap, ↓Pz.wOrV_ap, ↓Pz.wNotV_ap, ↓Pz.wIfE_ap, ↓Pz.wTru_ap, ↓Pz.wChain_ap, ↓Pz.wNeg_ap, ↓Pz.wAug_ap, ↓Pz.gNm_ap, ↓Pz.gNl_ap, ↓Pz.gCn_ap, ↓Pz.gTp_ap, ↓Pz.wAsg_ap, ↓Pz.wItE_ap, ↓Pz.wRng1_ap, ↓Pz.wRng2_ap, ↓Pz.wYes_ap, ↓Pz.wLc_ap, ↓Pz.wLcO_ap, ↓Pz.wBM_ap, ↓Pz.wSetIx_ap, ↓Pz.wFrz_ap, ↓Pz.wCallF_ap, ↓Pz.wCallQ_ap, ↓Pz.wCallWF_ap, ↓Pz.wRev_ap, ↓Pz.wRg1_ap, ↓Pz.wRg2_ap, ↓Pz.wListRg_ap, ↓Pz.wRng3_ap, ↓Pz.wEnum_ap, ↓Pz.wZip_ap, ↓Pz.wCallQO_ap, ↓Pz.wDPut_ap, ↓Pz.wPNil_ap, ↓Pz.wPCons_ap, ↓Pz.wDisp_ap, ↓Pz.wDNew_ap, ↓Pz.wDNil_ap, ↓Pz.wEnumX_ap, ↓Pz.wCallE_ap, ↓Pz.wSlO_ap, ↓Pz.wEnumY_ap, ↓Pz.wDGet2_ap, ↓Pz.wMaxDf_ap, ↓Pz.wCallFO_ap, ↓Pz.wRevY_ap, ↓Pz.wFrzX_ap, ↓Pz.wSwp_ap, ↓Pz.wCallX_ap, ↓Pz.wCallXO_ap, ↓Pz.wCallWX_ap, ↓Pz.wRaise1_ap, ↓Pz.wRaise0_ap, ↓Pz.wTry_ap, ↓Pz.wIsE_ap, ↓Pz.wXf_ap, ↓Pz.wDispD_ap, ↓Pz.wSortLen_ap, ↓Pz.wGGet_ap, ↓Pz.wMinDf_ap, ↓Pz.wPar_ap, ↓Pz.wLam_ap, ↓Pz.wAct_ap, ↓Pz.wRep_ap, ↓Pz.wZipM_ap, ↓Pz.wLenSet_ap, ↓Pz.wBor_ap, ↓Pz.gTpL_ap, ↓Pz.wTupRg_ap, ↓Pz.wRevS_ap, ↓Pz.wFmt_ap, ↓Pz.wJoined_ap, ↓Pz.wAsgS_ap, ↓Pz.wPar3_ap, ↓Pz.wDc_ap, ↓Pz.wDGet3_ap, ↓Pz.wListV_ap, ↓Pz.wSumV_ap, ↓Pz.wDIn_ap, ↓Pz.wTGet2_ap, ↓Pz.wTPut_ap, ↓Pz.wDAug_ap, ↓Pz.wFrzL_ap, ↓Pz.wItV_ap, ↓Pz.wItI_ap, ↓Pz.wItK_ap, ↓Pz.wDisp1_ap, ↓Pz.wBorD_ap, ↓Pz.wDNewT_ap, ↓Pz.wCallFD_ap, ↓Pz.wDNew_ap, ↓Pz.wItC_ap, ↓Pz.wCallXE_ap, Pz.setAll, ↓Pz.wClose_ap, ↓Pz.wSetIxO_ap, ↓Pz.oIxS_ap, ↓Pz.wRaise3_ap, ↓Pz.oMulT_ap, Pz.dkX, Pz.unKD_kdD, Option.isSome_some, ↓Pz.wOrX_apS, ↓Pz.wAndX_apS, ↓Pz.orP_str, Pz.orP_some, Pz.orP_none, ↓oTGet, ↓oLtS, ↓oLtT, ↓fListKy, ↓fSortKy, ↓fLenD_o, ↓Pz.aFD, Pz.unD_K, Pz.unD_T, Pz.kyS_t, Pz.keysL_nil, Pz.keysL_ci, Pz.keysL_cs, ↓Pz.dtAt_o, Pz.dtAt_L, ↓Pz.dkAny_o, Pz.dkAny_D, Pz.dkAny_L, ↓Pz.dvAt_o, Pz.dvAt_D, Pz.dvAt_L, Pz.dvAt_T, ↓Pz.dkyS_o, Pz.dkyS_D, Pz.dkyS_L, Pz.dkyS_T, ↓Pz.dinS_o, Pz.dinS_D, Pz.dinS_L, Pz.dinS_T, Pz.lkP_K, Pz.lkP_T, ↓ret1_dT, cl_dt, Pz.lkOf_K, Pz.lkOf_T, Pz.xor_f, Pz.xor_t, Pz.hasD_int, Option.bind, Option.bind_some, List.set, ↓wTrim_mk, trimS, List.take_succ_cons, List.take_zero, Nat.reduceLT, ↓nx_mk, ↓set_mk, ↓if_mk, nthS, ↓oEq, ↓oNe, vw, ↓oAdd, ↓oSub, ↓oIadd, ↓oDGet, keyOf_str, keyOf_int, keyS_str, keyS_int, ↓dkAt_o, valE_cells, valE_at, valE_left, putE_at, putE_left, mergeE, mergeD1, kvD1, keyD_s, keyD_i, ret1_dE, cl_dk, ↓fIsi, ↓fDivmod, ↓fStr, Pz.okT_int, Pz.is_int_none, Pz.is_int_bool, Pz.is_int_int, Pz.is_int_str, Pz.is_int_list, Pz.is_int_tuple, Pz.is_int_dict, Pz.okT_bool, Pz.is_bool_none, Pz.is_bool_bool, Pz.is_bool_int, Pz.is_bool_str, Pz.is_bool_list, Pz.is_bool_tuple, Pz.is_bool_dict, Pz.okT_str, Pz.is_str_none, Pz.is_str_bool, Pz.is_str_int, Pz.is_str_str, Pz.is_str_list, Pz.is_str_tuple, Pz.is_str_dict, Pz.okT_tuple, Pz.is_tuple_none, Pz.is_tuple_bool, Pz.is_tuple_int, Pz.is_tuple_str, Pz.is_tuple_list, Pz.is_tuple_tuple, Pz.is_tuple_dict, Pz.okT_list, Pz.is_list_none, Pz.is_list_bool, Pz.is_list_int, Pz.is_list_str, Pz.is_list_list, Pz.is_list_tuple, Pz.is_list_dict, Pz.okT_dict, Pz.is_dict_none, Pz.is_dict_bool, Pz.is_dict_int, Pz.is_dict_str, Pz.is_dict_list, Pz.is_dict_tuple, Pz.is_dict_dict, ↓oFdiv, ↓oMod, ↓oMul, ↓oPow, ↓oBool, ↓oII, ↓oIsN, ↓oNotN, ↓oIn, ↓oInX, ↓oInQ, ↓oInT, ↓oIsB, ↓oIsBN, ↓oNotB, noneS, ↓ret_mk, ↓retN_mk, ↓bk_mk, ↓ct_mk, ↓expr_mk, ↓for_mk, truD, ↓oIxE, ↓mPopAt, ↓mIndex, ↓mInsert, ↓fIntS, ↓fStrN, ↓Pz.wJs_cons, ↓Pz.wJs_nil, at0, at1, at2, at3, ix10, ix20, ix21, ix30, ix31, ix32, Pz.len1, Pz.len2, Pz.len3, List.length_nil, List.length_cons, sh_int, sh_bl, sh_non, Int.reduceEq, reduceCtorEq, decide_true, decide_false, sh_nil, eqv_nn, eqv_nilL, List.isEmpty_map, sh_lit, List.flatten_replicate_singleton, List.length_replicate, eqv_int, Nat.zero_le, szL, Nat.reduceLeDiff, Nat.reduceAdd, ↓ret1_d, ↓ret1_o0, ↓ret1_o1, ↓ret1_o2, ↓ret0_o0, ↓ret_d, cl_lst, true_and, and_true, decide_eq_true_eq, ↓oSl, ↓oSlO, ↓fLen, ↓fAbs, ↓fInt, ↓fMaxE, ↓fMinE, ↓fSumE, ↓fAll, ↓fAny, ↓fList, ↓fListO, ↓fListE, ↓fListEO, ↓fTuple, ↓fSortedE, ↓fSortedS, ↓fSortedG, ↓fRep, ↓fRepX, ↓fRepZ, ↓fRepW, ↓fBool, vwJ_l, vwJ_t, vwS_l, vwS_t, vwB, dsOf, tyD, ↓mAppend, ↓mExtend, ↓mPop, ↓mReverse, ↓mSplit, ↓mSplitO, ↓mStrip, ↓mLstrip, ↓mRstrip, ↓mStr2, ↓mPart, ↓mJoinE, frzS, frzX, ↓excOf_o, ↓oDGetX, List.map_cons, List.map_nil, List.getElem?_cons_zero, List.getElem?_cons_succ, List.cons_append, List.nil_append, Bool.false_eq_true, Bool.true_eq_false, ↓reduceIte, p10_3, p10_6, p10_7, p10_9, p10_12, Option.map, ↓aQ, ↓aQO, ↓aFO, borS, atomD, ↓aXO, ↓oAddO, ↓oMulO, Option.some.injEq, exists_eq_left', exists_and_left, datO, datQ_d, ↓mCount, ↓mCountS, Bool.not_true, Bool.not_false, ↓F_column, ↓F_moved, ↓F_moves, ↓F_shortest_conversion, ↓F__law_draw, ↓F__law_size, ↓F__law_any, ↓F__law_column, ↓F__law_state, ↓F__law_moves, ↓F__law_layers, ↓F__law_told, ↓F__law_right, g_kwe_shortest_conversion_3_limit]) | `(tactic| subst_vars) => `(tactic| simp -implicitDefEqProofs only [wipeS, ↓Pz.wC_ap, ↓Pz.wVar_ap, ↓Pz.wOp_ap, ↓Pz.wTest_ap, ↓Pz.wNil_ap, ↓Pz.wCons_ap, ↓Pz.wCall_ap, ↓Pz.wCallW_ap, ↓Pz.wApp_ap, ↓Pz.wLst_ap, ↓Pz.wTup_ap, ↓Pz.wLstO_ap, ↓Pz.wNoPart_ap, ↓Pz.wPart_ap, ↓Pz.wSl_ap, ↓Pz.wAnd_ap, ↓Pz.wOr_ap, ↓Pz.wNot_ap, ↓Pz.wAndV_ap, ↓Pz.wOrV_ap, ↓Pz.wNotV_ap, ↓Pz.wIfE_ap, ↓Pz.wTru_ap, ↓Pz.wChain_ap, ↓Pz.wNeg_ap, ↓Pz.wAug_ap, ↓Pz.gNm_ap, ↓Pz.gNl_ap, ↓Pz.gCn_ap, ↓Pz.gTp_ap, ↓Pz.wAsg_ap, ↓Pz.wItE_ap, ↓Pz.wRng1_ap, ↓Pz.wRng2_ap, ↓Pz.wYes_ap, ↓Pz.wLc_ap, ↓Pz.wLcO_ap, ↓Pz.wBM_ap, ↓Pz.wSetIx_ap, ↓Pz.wFrz_ap, ↓Pz.wCallF_ap, ↓Pz.wCallQ_ap, ↓Pz.wCallWF_ap, ↓Pz.wRev_ap, ↓Pz.wRg1_ap, ↓Pz.wRg2_ap, ↓Pz.wListRg_ap, ↓Pz.wRng3_ap, ↓Pz.wEnum_ap, ↓Pz.wZip_ap, ↓Pz.wCallQO_ap, ↓Pz.wDPut_ap, ↓Pz.wPNil_ap, ↓Pz.wPCons_ap, ↓Pz.wDisp_ap, ↓Pz.wDNew_ap, ↓Pz.wDNil_ap, ↓Pz.wEnumX_ap, ↓Pz.wCallE_ap, ↓Pz.wSlO_ap, ↓Pz.wEnumY_ap, ↓Pz.wDGet2_ap, ↓Pz.wMaxDf_ap, ↓Pz.wCallFO_ap, ↓Pz.wRevY_ap, ↓Pz.wFrzX_ap, ↓Pz.wSwp_ap, ↓Pz.wCallX_ap, ↓Pz.wCallXO_ap, ↓Pz.wCallWX_ap, ↓Pz.wRaise1_ap, ↓Pz.wRaise0_ap, ↓Pz.wTry_ap, ↓Pz.wIsE_ap, ↓Pz.wXf_ap, ↓Pz.wDispD_ap, ↓Pz.wSortLen_ap, ↓Pz.wGGet_ap, ↓Pz.wMinDf_ap, ↓Pz.wPar_ap, ↓Pz.wLam_ap, ↓Pz.wAct_ap, ↓Pz.wRep_ap, ↓Pz.wZipM_ap, ↓Pz.wLenSet_ap, ↓Pz.wBor_ap, ↓Pz.gTpL_ap, ↓Pz.wTupRg_ap, ↓Pz.wRevS_ap, ↓Pz.wFmt_ap, ↓Pz.wJoined_ap, ↓Pz.wAsgS_ap, ↓Pz.wPar3_ap, ↓Pz.wDc_ap, ↓Pz.wDGet3_ap, ↓Pz.wListV_ap, ↓Pz.wSumV_ap, ↓Pz.wDIn_ap, ↓Pz.wTGet2_ap, ↓Pz.wTPut_ap, ↓Pz.wDAug_ap, ↓Pz.wFrzL_ap, ↓Pz.wItV_ap, ↓Pz.wItI_ap, ↓Pz.wItK_ap, ↓Pz.wDisp1_ap, ↓Pz.wBorD_ap, ↓Pz.wDNewT_ap, ↓Pz.wCallFD_ap, ↓Pz.wDNew_ap, ↓Pz.wItC_ap, ↓Pz.wCallXE_ap, Pz.setAll, ↓Pz.wClose_ap, ↓Pz.wSetIxO_ap, ↓Pz.oIxS_ap, ↓Pz.wRaise3_ap, ↓Pz.oMulT_ap, Pz.dkX, Pz.unKD_kdD, Option.isSome_some, ↓Pz.wOrX_apS, ↓Pz.wAndX_apS, ↓Pz.orP_str, Pz.orP_some, Pz.orP_none, ↓oTGet, ↓oLtS, ↓oLtT, ↓fListKy, ↓fSortKy, ↓fLenD_o, ↓Pz.aFD, Pz.unD_K, Pz.unD_T, Pz.kyS_t, Pz.keysL_nil, Pz.keysL_ci, Pz.keysL_cs, ↓Pz.dtAt_o, Pz.dtAt_L, ↓Pz.dkAny_o, Pz.dkAny_D, Pz.dkAny_L, ↓Pz.dvAt_o, Pz.dvAt_D, Pz.dvAt_L, Pz.dvAt_T, ↓Pz.dkyS_o, Pz.dkyS_D, Pz.dkyS_L, Pz.dkyS_T, ↓Pz.dinS_o, Pz.dinS_D, Pz.dinS_L, Pz.dinS_T, Pz.lkP_K, Pz.lkP_T, ↓ret1_dT, cl_dt, Pz.lkOf_K, Pz.lkOf_T, Pz.xor_f, Pz.xor_t, Pz.hasD_int, Option.bind, Option.bind_some, List.set, ↓seq_mk, ↓wTrim_mk, trimS, List.take_succ_cons, List.take_zero, Nat.reduceLT, ↓nx_mk, ↓set_mk, ↓if_mk, nthS, ↓oEq, ↓oNe, vw, ↓oAdd, ↓oSub, ↓oIadd, ↓oDGet, keyOf_str, keyOf_int, keyS_str, keyS_int, ↓dkAt_o, valE_cells, valE_at, valE_left, putE_at, putE_left, mergeE, mergeD1, kvD1, keyD_s, keyD_i, ret1_dE, cl_dk, ↓fIsi, ↓fDivmod, ↓fStr, Pz.okT_int, Pz.is_int_none, Pz.is_int_bool, Pz.is_int_int, Pz.is_int_str, Pz.is_int_list, Pz.is_int_tuple, Pz.is_int_dict, Pz.okT_bool, Pz.is_bool_none, Pz.is_bool_bool, Pz.is_bool_int, Pz.is_bool_str, Pz.is_bool_list, Pz.is_bool_tuple, Pz.is_bool_dict, Pz.okT_str, Pz.is_str_none, Pz.is_str_bool, Pz.is_str_int, Pz.is_str_str, Pz.is_str_list, Pz.is_str_tuple, Pz.is_str_dict, Pz.okT_tuple, Pz.is_tuple_none, Pz.is_tuple_bool, Pz.is_tuple_int, Pz.is_tuple_str, Pz.is_tuple_list, Pz.is_tuple_tuple, Pz.is_tuple_dict, Pz.okT_list, Pz.is_list_none, Pz.is_list_bool, Pz.is_list_int, Pz.is_list_str, Pz.is_list_list, Pz.is_list_tuple, Pz.is_list_dict, Pz.okT_dict, Pz.is_dict_none, Pz.is_dict_bool, Pz.is_dict_int, Pz.is_dict_str, Pz.is_dict_list, Pz.is_dict_tuple, Pz.is_dict_dict, ↓oFdiv, ↓oMod, ↓oMul, ↓oPow, ↓oBool, ↓oII, ↓oIsN, ↓oNotN, ↓oIn, ↓oInX, ↓oInQ, ↓oInT, ↓oIsB, ↓oIsBN, ↓oNotB, noneS, ↓ret_mk, ↓retN_mk, ↓bk_mk, ↓ct_mk, ↓expr_mk, ↓for_mk, truD, ↓oIxE, ↓mPopAt, ↓mIndex, ↓mInsert, ↓fIntS, ↓fStrN, ↓Pz.wJs_cons, ↓Pz.wJs_nil, at0, at1, at2, at3, ix10, ix20, ix21, ix30, ix31, ix32, Pz.len1, Pz.len2, Pz.len3, List.length_nil, List.length_cons, sh_int, sh_bl, sh_non, Int.reduceEq, reduceCtorEq, decide_true, decide_false, sh_nil, eqv_nn, eqv_nilL, List.isEmpty_map, sh_lit, List.flatten_replicate_singleton, List.length_replicate, eqv_int, Nat.zero_le, szL, Nat.reduceLeDiff, Nat.reduceAdd, ↓ret1_d, ↓ret1_o0, ↓ret1_o1, ↓ret1_o2, ↓ret0_o0, ↓ret_d, cl_lst, true_and, and_true, decide_eq_true_eq, ↓oSl, ↓oSlO, ↓fLen, ↓fAbs, ↓fInt, ↓fMaxE, ↓fMinE, ↓fSumE, ↓fAll, ↓fAny, ↓fList, ↓fListO, ↓fListE, ↓fListEO, ↓fTuple, ↓fSortedE, ↓fSortedS, ↓fSortedG, ↓fRep, ↓fRepX, ↓fRepZ, ↓fRepW, ↓fBool, vwJ_l, vwJ_t, vwS_l, vwS_t, vwB, dsOf, tyD, ↓mAppend, ↓mExtend, ↓mPop, ↓mReverse, ↓mSplit, ↓mSplitO, ↓mStrip, ↓mLstrip, ↓mRstrip, ↓mStr2, ↓mPart, ↓mJoinE, frzS, frzX, ↓excOf_o, ↓oDGetX, List.map_cons, List.map_nil, List.getElem?_cons_zero, List.getElem?_cons_succ, List.cons_append, List.nil_append, Bool.false_eq_true, Bool.true_eq_false, ↓reduceIte, p10_3, p10_6, p10_7, p10_9, p10_12, Option.map, ↓aQ, ↓aQO, ↓aFO, borS, atomD, ↓aXO, ↓oAddO, ↓oMulO, Option.some.injEq, exists_eq_left', exists_and_left, datO, datQ_d, ↓mCount, ↓mCountS, Bool.not_true, Bool.not_false, ↓F_column, ↓F_moved, ↓F_moves, ↓F_shortest_conversion, ↓F__law_draw, ↓F__law_size, ↓F__law_any, ↓F__law_column, ↓F__law_state, ↓F__law_moves, ↓F__law_layers, ↓F__law_told, ↓F__law_right, g_kwe_shortest_conversion_3_limit])
theorem ok_column (T : Tx K mg base f_column f__law_pen f__law_draw f__law_column f__law_told f_moved f__law_size f__law_moves f_moves f__law_any f__law_layers f_next_layer f__law_state f_shortest_conversion f__law_right f_law fd_column fd__law_pen fd__law_draw fd__law_column fd__law_told fd_moved fd__law_size fd__law_moves fd_moves fd__law_any fd__law_layers fd_next_layer fd__law_state fd_shortest_conversion fd__law_right fd_law e__law_right) : FnD P w K mg base CX0 1 f_column fd_column ["indent", "width"] sp_column := by
  refine FnD.of0 T.d_column.F sc_column 0 _ (fun cdv A outer s H E Z0 hA hr hz => (dss_cons (ds_set 2 sc_column.nd de_int)
      (dss_cons (ds_for PassesOwn.never rfl (di_e (de_v 0 (pv 0))) (dg_name 3 sc_column.nd) (dss_one (ds_set 2 sc_column.nd (de_if (dt_cmp d2_eq (op_eqD hr.units) (de_v 3 (pv 3)) de_str (nomark _)) (de_op d2_add op_addR (de_v 2 (pv 2)) de_int) (de_op d2_mul op_mulR (de_op d2_add op_addR (de_op d2_fdiv op_fdivW (de_v 2 (pv 2)) (de_v 1 (pv 1))) de_int) (de_v 1 (pv 1)))))))
      (dss_one (ds_ret (de_v 2 (pv 2))))))) ?_
  refine ho_column fun z w Qd ⟨hb, h0, h1, h2⟩ q => ?_
  try dsimp only at *
  simp -implicitDefEqProofs only [st_column, ↓Pz.wC_ap, ↓Pz.wVar_ap, ↓Pz.wOp_ap, ↓Pz.wTest_ap, ↓Pz.wNil_ap, ↓Pz.wCons_ap, ↓Pz.wCall_ap, ↓Pz.wCallW_ap, ↓Pz.wApp_ap, ↓Pz.wLst_ap, ↓Pz.wTup_ap, ↓Pz.wLstO_ap, ↓Pz.wNoPart_ap, ↓Pz.wPart_ap, ↓Pz.wSl_ap, ↓Pz.wAnd_ap, ↓Pz.wOr_ap, ↓Pz.wNot_ap, ↓Pz.wAndV_ap, ↓Pz.wOrV_ap, ↓Pz.wNotV_ap, ↓Pz.wIfE_ap, ↓Pz.wTru_ap, ↓Pz.wChain_ap, ↓Pz.wNeg_ap, ↓Pz.wAug_ap, ↓Pz.gNm_ap, ↓Pz.gNl_ap, ↓Pz.gCn_ap, ↓Pz.gTp_ap, ↓Pz.wAsg_ap, ↓Pz.wItE_ap, ↓Pz.wRng1_ap, ↓Pz.wRng2_ap, ↓Pz.wYes_ap, ↓Pz.wLc_ap, ↓Pz.wLcO_ap, ↓Pz.wBM_ap, ↓Pz.wSetIx_ap, ↓Pz.wFrz_ap, ↓Pz.wCallF_ap, ↓Pz.wCallQ_ap, ↓Pz.wCallWF_ap, ↓Pz.wRev_ap, ↓Pz.wRg1_ap, ↓Pz.wRg2_ap, ↓Pz.wListRg_ap, ↓Pz.wRng3_ap, ↓Pz.wEnum_ap, ↓Pz.wZip_ap, ↓Pz.wCallQO_ap, ↓Pz.wDPut_ap, ↓Pz.wPNil_ap, ↓Pz.wPCons_ap, ↓Pz.wDisp_ap, ↓Pz.wDNew_ap, ↓Pz.wDNil_ap, ↓Pz.wEnumX_ap, ↓Pz.wCallE_ap, ↓Pz.wSlO_ap, ↓Pz.wEnumY_ap, ↓Pz.wDGet2_ap, ↓Pz.wMaxDf_ap, ↓Pz.wCallFO_ap, ↓Pz.wRevY_ap, ↓Pz.wFrzX_ap, ↓Pz.wSwp_ap, ↓Pz.wCallX_ap, ↓Pz.wCallXO_ap, ↓Pz.wCallWX_ap, ↓Pz.wRaise1_ap, ↓Pz.wRaise0_ap, ↓Pz.wTry_ap, ↓Pz.wIsE_ap, ↓Pz.wXf_ap, ↓Pz.wDispD_ap, ↓Pz.wSortLen_ap, ↓Pz.wGGet_ap, ↓Pz.wMinDf_ap, ↓Pz.wPar_ap, ↓Pz.wLam_ap, ↓Pz.wAct_ap, ↓Pz.wRep_ap, ↓Pz.wZipM_ap, ↓Pz.wLenSet_ap, ↓Pz.wBor_ap, ↓Pz.gTpL_ap, ↓Pz.wTupRg_ap, ↓Pz.wRevS_ap, ↓Pz.wFmt_ap, ↓Pz.wJoined_ap, ↓Pz.wAsgS_ap, ↓Pz.wPar3_ap, ↓Pz.wDc_ap, ↓Pz.wDGet3_ap, ↓Pz.wListV_ap, ↓Pz.wSumV_ap, ↓Pz.wDIn_ap, ↓Pz.wTGet2_ap, ↓Pz.wTPut_ap, ↓Pz.wDAug_ap, ↓Pz.wFrzL_ap, ↓Pz.wItV_ap, ↓Pz.wItI_ap, ↓Pz.wItK_ap, ↓Pz.wDisp1_ap, ↓Pz.wBorD_ap, ↓Pz.wDNewT_ap, ↓Pz.wCallFD_ap, ↓Pz.wDNew_ap, ↓Pz.wItC_ap, ↓Pz.wCallXE_ap, Pz.setAll, ↓Pz.wClose_ap, ↓Pz.wSetIxO_ap, ↓Pz.oIxS_ap, ↓Pz.wRaise3_ap, ↓Pz.oMulT_ap, Pz.dkX, Pz.unKD_kdD, Option.isSome_some, ↓Pz.wOrX_apS, ↓Pz.wAndX_apS, ↓Pz.orP_str, Pz.orP_some, Pz.orP_none, ↓oTGet, ↓oLtS, ↓oLtT, ↓fListKy, ↓fSortKy, ↓fLenD_o, ↓Pz.aFD, Pz.unD_K, Pz.unD_T, Pz.kyS_t, Pz.keysL_nil, Pz.keysL_ci, Pz.keysL_cs, ↓Pz.dtAt_o, Pz.dtAt_L, ↓Pz.dkAny_o, Pz.dkAny_D, Pz.dkAny_L, ↓Pz.dvAt_o, Pz.dvAt_D, Pz.dvAt_L, Pz.dvAt_T, ↓Pz.dkyS_o, Pz.dkyS_D, Pz.dkyS_L, Pz.dkyS_T, ↓Pz.dinS_o, Pz.dinS_D, Pz.dinS_L, Pz.dinS_T, Pz.lkP_K, Pz.lkP_T, ↓ret1_dT, cl_dt, Pz.lkOf_K, Pz.lkOf_T, Pz.xor_f, Pz.xor_t, Pz.hasD_int, Option.bind, Option.bind_some, List.set, ↓seq_mk, ↓wTrim_mk, trimS, List.take_succ_cons, List.take_zero, Nat.reduceLT, ↓nx_mk, ↓set_mk, ↓if_mk, nthS, ↓oEq, ↓oNe, vw, ↓oAdd, ↓oSub, ↓oIadd, ↓oDGet, keyOf_str, keyOf_int, keyS_str, keyS_int, ↓dkAt_o, valE_cells, valE_at, valE_left, putE_at, putE_left, mergeE, mergeD1, kvD1, keyD_s, keyD_i, ret1_dE, cl_dk, ↓fIsi, ↓fDivmod, ↓fStr, Pz.okT_int, Pz.is_int_none, Pz.is_int_bool, Pz.is_int_int, Pz.is_int_str, Pz.is_int_list, Pz.is_int_tuple, Pz.is_int_dict, Pz.okT_bool, Pz.is_bool_none, Pz.is_bool_bool, Pz.is_bool_int, Pz.is_bool_str, Pz.is_bool_list, Pz.is_bool_tuple, Pz.is_bool_dict, Pz.okT_str, Pz.is_str_none, Pz.is_str_bool, Pz.is_str_int, Pz.is_str_str, Pz.is_str_list, Pz.is_str_tuple, Pz.is_str_dict, Pz.okT_tuple, Pz.is_tuple_none, Pz.is_tuple_bool, Pz.is_tuple_int, Pz.is_tuple_str, Pz.is_tuple_list, Pz.is_tuple_tuple, Pz.is_tuple_dict, Pz.okT_list, Pz.is_list_none, Pz.is_list_bool, Pz.is_list_int, Pz.is_list_str, Pz.is_list_list, Pz.is_list_tuple, Pz.is_list_dict, Pz.okT_dict, Pz.is_dict_none, Pz.is_dict_bool, Pz.is_dict_int, Pz.is_dict_str, Pz.is_dict_list, Pz.is_dict_tuple, Pz.is_dict_dict, ↓oFdiv, ↓oMod, ↓oMul, ↓oPow, ↓oBool, ↓oII, ↓oIsN, ↓oNotN, ↓oIn, ↓oInX, ↓oInQ, ↓oInT, ↓oIsB, ↓oIsBN, ↓oNotB, noneS, ↓ret_mk, ↓retN_mk, ↓bk_mk, ↓ct_mk, ↓expr_mk, ↓for_mk, truD, ↓oIxE, ↓mPopAt, ↓mIndex, ↓mInsert, ↓fIntS, ↓fStrN, ↓Pz.wJs_cons, ↓Pz.wJs_nil, at0, at1, at2, at3, ix10, ix20, ix21, ix30, ix31, ix32, Pz.len1, Pz.len2, Pz.len3, List.length_nil, List.length_cons, sh_int, sh_bl, sh_non, Int.reduceEq, reduceCtorEq, decide_true, decide_false, sh_nil, eqv_nn, eqv_nilL, List.isEmpty_map, sh_lit, List.flatten_replicate_singleton, List.length_replicate, eqv_int, Nat.zero_le, szL, Nat.reduceLeDiff, Nat.reduceAdd, ↓ret1_d, ↓ret1_o0, ↓ret1_o1, ↓ret1_o2, ↓ret0_o0, ↓ret_d, cl_lst, true_and, and_true, decide_eq_true_eq, ↓oSl, ↓oSlO, ↓fLen, ↓fAbs, ↓fInt, ↓fMaxE, ↓fMinE, ↓fSumE, ↓fAll, ↓fAny, ↓fList, ↓fListO, ↓fListE, ↓fListEO, ↓fTuple, ↓fSortedE, ↓fSortedS, ↓fSortedG, ↓fRep, ↓fRepX, ↓fRepZ, ↓fRepW, ↓fBool, vwJ_l, vwJ_t, vwS_l, vwS_t, vwB, dsOf, tyD, ↓mAppend, ↓mExtend, ↓mPop, ↓mReverse, ↓mSplit, ↓mSplitO, ↓mStrip, ↓mLstrip, ↓mRstrip, ↓mStr2, ↓mPart, ↓mJoinE, frzS, frzX, ↓excOf_o, ↓oDGetX, List.map_cons, List.map_nil, List.getElem?_cons_zero, List.getElem?_cons_succ, List.cons_append, List.nil_append, Bool.false_eq_true, Bool.true_eq_false, ↓reduceIte, p10_3, p10_6, p10_7, p10_9, p10_12, Option.map, ↓aQ, ↓aQO, ↓aFO, borS, atomD, ↓aXO, ↓oAddO, ↓oMulO, Option.some.injEq, exists_eq_left', exists_and_left, datO, datQ_d, ↓mCount, ↓mCountS, Bool.not_true, Bool.not_false, ↓F_column, ↓F_moved, ↓F_moves, ↓F_shortest_conversion, ↓F__law_draw, ↓F__law_size, ↓F__law_any, ↓F__law_column, ↓F__law_state, ↓F__law_moves, ↓F__law_layers, ↓F__law_told, ↓F__law_right, g_kwe_shortest_conversion_3_limit]
  refine forL_ix (fun (ds : List PyData) (sl : Sls) (st : Sto) => ∃ (l : List Nat) (f : Int) (s_3 : Option Sl), sl = [some (.d (.str z)), some (.d (.int w)), some (.d (.int f)), s_3] ∧ st = [] ∧ ds = l.map (fun c => PyData.str ⟨#[c]⟩) ∧ blankL l ∧ colL w l f = colL w (tl z) 0) ?_ ?_ _ _ _ ⟨tl z, 0, _, rfl, rfl, rfl, hb, rfl⟩
  · rintro sl st ⟨l, f, s_3, rfl, rfl, hd, hm, hc⟩
    obtain rfl : l = [] := by cases l with | nil => rfl | cons _ _ => cases hd
    simp only [colL] at hc
    nofun
    rw [hc, colL_rt hb]
    exact q
  · rintro R B d ds sl st ih ⟨l, f, s_3, rfl, rfl, hd, hm, hc⟩
    cases l with
    | nil => cases hd
    | cons c l =>
      simp only [List.map_cons, List.cons.injEq] at hd
      obtain ⟨rfl, rfl⟩ := hd
      have hm2 : blankL l := fun x m => hm x (List.mem_cons_of_mem _ m)
      rcases hm c List.mem_cons_self with rfl | rfl
      · simp only [↓Pz.wC_ap, ↓Pz.wVar_ap, ↓Pz.wOp_ap, ↓Pz.wTest_ap, ↓Pz.wNil_ap, ↓Pz.wCons_ap, ↓Pz.wCall_ap, ↓Pz.wCallW_ap, ↓Pz.wApp_ap, ↓Pz.wLst_ap, ↓Pz.wTup_ap, ↓Pz.wLstO_ap, ↓Pz.wNoPart_ap, ↓Pz.wPart_ap, ↓Pz.wSl_ap, ↓Pz.wAnd_ap, ↓Pz.wOr_ap, ↓Pz.wNot_ap, ↓Pz.wAndV_ap, ↓Pz.wOrV_ap, ↓Pz.wNotV_ap, ↓Pz.wIfE_ap, ↓Pz.wTru_ap, ↓Pz.wChain_ap, ↓Pz.wNeg_ap, ↓Pz.wAug_ap, ↓Pz.gNm_ap, ↓Pz.gNl_ap, ↓Pz.gCn_ap, ↓Pz.gTp_ap, ↓Pz.wAsg_ap, ↓Pz.wItE_ap, ↓Pz.wRng1_ap, ↓Pz.wRng2_ap, ↓Pz.wYes_ap, ↓Pz.wLc_ap, ↓Pz.wLcO_ap, ↓Pz.wBM_ap, ↓Pz.wSetIx_ap, ↓Pz.wFrz_ap, ↓Pz.wCallF_ap, ↓Pz.wCallQ_ap, ↓Pz.wCallWF_ap, ↓Pz.wRev_ap, ↓Pz.wRg1_ap, ↓Pz.wRg2_ap, ↓Pz.wListRg_ap, ↓Pz.wRng3_ap, ↓Pz.wEnum_ap, ↓Pz.wZip_ap, ↓Pz.wCallQO_ap, ↓Pz.wDPut_ap, ↓Pz.wPNil_ap, ↓Pz.wPCons_ap, ↓Pz.wDisp_ap, ↓Pz.wDNew_ap, ↓Pz.wDNil_ap, ↓Pz.wEnumX_ap, ↓Pz.wCallE_ap, ↓Pz.wSlO_ap, ↓Pz.wEnumY_ap, ↓Pz.wDGet2_ap, ↓Pz.wMaxDf_ap, ↓Pz.wCallFO_ap, ↓Pz.wRevY_ap, ↓Pz.wFrzX_ap, ↓Pz.wSwp_ap, ↓Pz.wCallX_ap, ↓Pz.wCallXO_ap, ↓Pz.wCallWX_ap, ↓Pz.wRaise1_ap, ↓Pz.wRaise0_ap, ↓Pz.wTry_ap, ↓Pz.wIsE_ap, ↓Pz.wXf_ap, ↓Pz.wDispD_ap, ↓Pz.wSortLen_ap, ↓Pz.wGGet_ap, ↓Pz.wMinDf_ap, ↓Pz.wPar_ap, ↓Pz.wLam_ap, ↓Pz.wAct_ap, ↓Pz.wRep_ap, ↓Pz.wZipM_ap, ↓Pz.wLenSet_ap, ↓Pz.wBor_ap, ↓Pz.gTpL_ap, ↓Pz.wTupRg_ap, ↓Pz.wRevS_ap, ↓Pz.wFmt_ap, ↓Pz.wJoined_ap, ↓Pz.wAsgS_ap, ↓Pz.wPar3_ap, ↓Pz.wDc_ap, ↓Pz.wDGet3_ap, ↓Pz.wListV_ap, ↓Pz.wSumV_ap, ↓Pz.wDIn_ap, ↓Pz.wTGet2_ap, ↓Pz.wTPut_ap, ↓Pz.wDAug_ap, ↓Pz.wFrzL_ap, ↓Pz.wItV_ap, ↓Pz.wItI_ap, ↓Pz.wItK_ap, ↓Pz.wDisp1_ap, ↓Pz.wBorD_ap, ↓Pz.wDNewT_ap, ↓Pz.wCallFD_ap, ↓Pz.wDNew_ap, ↓Pz.wItC_ap, ↓Pz.wCallXE_ap, Pz.setAll, ↓Pz.wClose_ap, ↓Pz.wSetIxO_ap, ↓Pz.oIxS_ap, ↓Pz.wRaise3_ap, ↓Pz.oMulT_ap, Pz.dkX, Pz.unKD_kdD, Option.isSome_some, ↓Pz.wOrX_apS, ↓Pz.wAndX_apS, ↓Pz.orP_str, Pz.orP_some, Pz.orP_none, ↓oTGet, ↓oLtS, ↓oLtT, ↓fListKy, ↓fSortKy, ↓fLenD_o, ↓Pz.aFD, Pz.unD_K, Pz.unD_T, Pz.kyS_t, Pz.keysL_nil, Pz.keysL_ci, Pz.keysL_cs, ↓Pz.dtAt_o, Pz.dtAt_L, ↓Pz.dkAny_o, Pz.dkAny_D, Pz.dkAny_L, ↓Pz.dvAt_o, Pz.dvAt_D, Pz.dvAt_L, Pz.dvAt_T, ↓Pz.dkyS_o, Pz.dkyS_D, Pz.dkyS_L, Pz.dkyS_T, ↓Pz.dinS_o, Pz.dinS_D, Pz.dinS_L, Pz.dinS_T, Pz.lkP_K, Pz.lkP_T, ↓ret1_dT, cl_dt, Pz.lkOf_K, Pz.lkOf_T, Pz.xor_f, Pz.xor_t, Pz.hasD_int, Option.bind, Option.bind_some, List.set, ↓seq_mk, ↓wTrim_mk, trimS, List.take_succ_cons, List.take_zero, Nat.reduceLT, ↓nx_mk, ↓set_mk, ↓if_mk, nthS, ↓oEq, ↓oNe, vw, ↓oAdd, ↓oSub, ↓oIadd, ↓oDGet, keyOf_str, keyOf_int, keyS_str, keyS_int, ↓dkAt_o, valE_cells, valE_at, valE_left, putE_at, putE_left, mergeE, mergeD1, kvD1, keyD_s, keyD_i, ret1_dE, cl_dk, ↓fIsi, ↓fDivmod, ↓fStr, Pz.okT_int, Pz.is_int_none, Pz.is_int_bool, Pz.is_int_int, Pz.is_int_str, Pz.is_int_list, Pz.is_int_tuple, Pz.is_int_dict, Pz.okT_bool, Pz.is_bool_none, Pz.is_bool_bool, Pz.is_bool_int, Pz.is_bool_str, Pz.is_bool_list, Pz.is_bool_tuple, Pz.is_bool_dict, Pz.okT_str, Pz.is_str_none, Pz.is_str_bool, Pz.is_str_int, Pz.is_str_str, Pz.is_str_list, Pz.is_str_tuple, Pz.is_str_dict, Pz.okT_tuple, Pz.is_tuple_none, Pz.is_tuple_bool, Pz.is_tuple_int, Pz.is_tuple_str, Pz.is_tuple_list, Pz.is_tuple_tuple, Pz.is_tuple_dict, Pz.okT_list, Pz.is_list_none, Pz.is_list_bool, Pz.is_list_int, Pz.is_list_str, Pz.is_list_list, Pz.is_list_tuple, Pz.is_list_dict, Pz.okT_dict, Pz.is_dict_none, Pz.is_dict_bool, Pz.is_dict_int, Pz.is_dict_str, Pz.is_dict_list, Pz.is_dict_tuple, Pz.is_dict_dict, ↓oFdiv, ↓oMod, ↓oMul, ↓oPow, ↓oBool, ↓oII, ↓oIsN, ↓oNotN, ↓oIn, ↓oInX, ↓oInQ, ↓oInT, ↓oIsB, ↓oIsBN, ↓oNotB, noneS, ↓ret_mk, ↓retN_mk, ↓bk_mk, ↓ct_mk, ↓expr_mk, ↓for_mk, truD, ↓oIxE, ↓mPopAt, ↓mIndex, ↓mInsert, ↓fIntS, ↓fStrN, ↓Pz.wJs_cons, ↓Pz.wJs_nil, at0, at1, at2, at3, ix10, ix20, ix21, ix30, ix31, ix32, Pz.len1, Pz.len2, Pz.len3, List.length_nil, List.length_cons, sh_int, sh_bl, sh_non, Int.reduceEq, reduceCtorEq, decide_true, decide_false, sh_nil, eqv_nn, eqv_nilL, List.isEmpty_map, sh_lit, List.flatten_replicate_singleton, List.length_replicate, eqv_int, Nat.zero_le, szL, Nat.reduceLeDiff, Nat.reduceAdd, ↓ret1_d, ↓ret1_o0, ↓ret1_o1, ↓ret1_o2, ↓ret0_o0, ↓ret_d, cl_lst, true_and, and_true, decide_eq_true_eq, ↓oSl, ↓oSlO, ↓fLen, ↓fAbs, ↓fInt, ↓fMaxE, ↓fMinE, ↓fSumE, ↓fAll, ↓fAny, ↓fList, ↓fListO, ↓fListE, ↓fListEO, ↓fTuple, ↓fSortedE, ↓fSortedS, ↓fSortedG, ↓fRep, ↓fRepX, ↓fRepZ, ↓fRepW, ↓fBool, vwJ_l, vwJ_t, vwS_l, vwS_t, vwB, dsOf, tyD, ↓mAppend, ↓mExtend, ↓mPop, ↓mReverse, ↓mSplit, ↓mSplitO, ↓mStrip, ↓mLstrip, ↓mRstrip, ↓mStr2, ↓mPart, ↓mJoinE, frzS, frzX, ↓excOf_o, ↓oDGetX, List.map_cons, List.map_nil, List.getElem?_cons_zero, List.getElem?_cons_succ, List.cons_append, List.nil_append, Bool.false_eq_true, Bool.true_eq_false, ↓reduceIte, p10_3, p10_6, p10_7, p10_9, p10_12, Option.map, ↓aQ, ↓aQO, ↓aFO, borS, atomD, ↓aXO, ↓oAddO, ↓oMulO, Option.some.injEq, exists_eq_left', exists_and_left, datO, datQ_d, ↓mCount, ↓mCountS, Bool.not_true, Bool.not_false, ↓F_column, ↓F_moved, ↓F_moves, ↓F_shortest_conversion, ↓F__law_draw, ↓F__law_size, ↓F__law_any, ↓F__law_column, ↓F__law_state, ↓F__law_moves, ↓F__law_layers, ↓F__law_told, ↓F__law_right, g_kwe_shortest_conversion_3_limit, sign32]
        rw [colL, if_pos rfl] at hc
        exact ⟨sh_sign (by decide), ih _ _ ⟨l, _, _, rfl, rfl, rfl, hm2, hc⟩⟩
      · simp only [↓Pz.wC_ap, ↓Pz.wVar_ap, ↓Pz.wOp_ap, ↓Pz.wTest_ap, ↓Pz.wNil_ap, ↓Pz.wCons_ap, ↓Pz.wCall_ap, ↓Pz.wCallW_ap, ↓Pz.wApp_ap, ↓Pz.wLst_ap, ↓Pz.wTup_ap, ↓Pz.wLstO_ap, ↓Pz.wNoPart_ap, ↓Pz.wPart_ap, ↓Pz.wSl_ap, ↓Pz.wAnd_ap, ↓Pz.wOr_ap, ↓Pz.wNot_ap, ↓Pz.wAndV_ap, ↓Pz.wOrV_ap, ↓Pz.wNotV_ap, ↓Pz.wIfE_ap, ↓Pz.wTru_ap, ↓Pz.wChain_ap, ↓Pz.wNeg_ap, ↓Pz.wAug_ap, ↓Pz.gNm_ap, ↓Pz.gNl_ap, ↓Pz.gCn_ap, ↓Pz.gTp_ap, ↓Pz.wAsg_ap, ↓Pz.wItE_ap, ↓Pz.wRng1_ap, ↓Pz.wRng2_ap, ↓Pz.wYes_ap, ↓Pz.wLc_ap, ↓Pz.wLcO_ap, ↓Pz.wBM_ap, ↓Pz.wSetIx_ap, ↓Pz.wFrz_ap, ↓Pz.wCallF_ap, ↓Pz.wCallQ_ap, ↓Pz.wCallWF_ap, ↓Pz.wRev_ap, ↓Pz.wRg1_ap, ↓Pz.wRg2_ap, ↓Pz.wListRg_ap, ↓Pz.wRng3_ap, ↓Pz.wEnum_ap, ↓Pz.wZip_ap, ↓Pz.wCallQO_ap, ↓Pz.wDPut_ap, ↓Pz.wPNil_ap, ↓Pz.wPCons_ap, ↓Pz.wDisp_ap, ↓Pz.wDNew_ap, ↓Pz.wDNil_ap, ↓Pz.wEnumX_ap, ↓Pz.wCallE_ap, ↓Pz.wSlO_ap, ↓Pz.wEnumY_ap, ↓Pz.wDGet2_ap, ↓Pz.wMaxDf_ap, ↓Pz.wCallFO_ap, ↓Pz.wRevY_ap, ↓Pz.wFrzX_ap, ↓Pz.wSwp_ap, ↓Pz.wCallX_ap, ↓Pz.wCallXO_ap, ↓Pz.wCallWX_ap, ↓Pz.wRaise1_ap, ↓Pz.wRaise0_ap, ↓Pz.wTry_ap, ↓Pz.wIsE_ap, ↓Pz.wXf_ap, ↓Pz.wDispD_ap, ↓Pz.wSortLen_ap, ↓Pz.wGGet_ap, ↓Pz.wMinDf_ap, ↓Pz.wPar_ap, ↓Pz.wLam_ap, ↓Pz.wAct_ap, ↓Pz.wRep_ap, ↓Pz.wZipM_ap, ↓Pz.wLenSet_ap, ↓Pz.wBor_ap, ↓Pz.gTpL_ap, ↓Pz.wTupRg_ap, ↓Pz.wRevS_ap, ↓Pz.wFmt_ap, ↓Pz.wJoined_ap, ↓Pz.wAsgS_ap, ↓Pz.wPar3_ap, ↓Pz.wDc_ap, ↓Pz.wDGet3_ap, ↓Pz.wListV_ap, ↓Pz.wSumV_ap, ↓Pz.wDIn_ap, ↓Pz.wTGet2_ap, ↓Pz.wTPut_ap, ↓Pz.wDAug_ap, ↓Pz.wFrzL_ap, ↓Pz.wItV_ap, ↓Pz.wItI_ap, ↓Pz.wItK_ap, ↓Pz.wDisp1_ap, ↓Pz.wBorD_ap, ↓Pz.wDNewT_ap, ↓Pz.wCallFD_ap, ↓Pz.wDNew_ap, ↓Pz.wItC_ap, ↓Pz.wCallXE_ap, Pz.setAll, ↓Pz.wClose_ap, ↓Pz.wSetIxO_ap, ↓Pz.oIxS_ap, ↓Pz.wRaise3_ap, ↓Pz.oMulT_ap, Pz.dkX, Pz.unKD_kdD, Option.isSome_some, ↓Pz.wOrX_apS, ↓Pz.wAndX_apS, ↓Pz.orP_str, Pz.orP_some, Pz.orP_none, ↓oTGet, ↓oLtS, ↓oLtT, ↓fListKy, ↓fSortKy, ↓fLenD_o, ↓Pz.aFD, Pz.unD_K, Pz.unD_T, Pz.kyS_t, Pz.keysL_nil, Pz.keysL_ci, Pz.keysL_cs, ↓Pz.dtAt_o, Pz.dtAt_L, ↓Pz.dkAny_o, Pz.dkAny_D, Pz.dkAny_L, ↓Pz.dvAt_o, Pz.dvAt_D, Pz.dvAt_L, Pz.dvAt_T, ↓Pz.dkyS_o, Pz.dkyS_D, Pz.dkyS_L, Pz.dkyS_T, ↓Pz.dinS_o, Pz.dinS_D, Pz.dinS_L, Pz.dinS_T, Pz.lkP_K, Pz.lkP_T, ↓ret1_dT, cl_dt, Pz.lkOf_K, Pz.lkOf_T, Pz.xor_f, Pz.xor_t, Pz.hasD_int, Option.bind, Option.bind_some, List.set, ↓seq_mk, ↓wTrim_mk, trimS, List.take_succ_cons, List.take_zero, Nat.reduceLT, ↓nx_mk, ↓set_mk, ↓if_mk, nthS, ↓oEq, ↓oNe, vw, ↓oAdd, ↓oSub, ↓oIadd, ↓oDGet, keyOf_str, keyOf_int, keyS_str, keyS_int, ↓dkAt_o, valE_cells, valE_at, valE_left, putE_at, putE_left, mergeE, mergeD1, kvD1, keyD_s, keyD_i, ret1_dE, cl_dk, ↓fIsi, ↓fDivmod, ↓fStr, Pz.okT_int, Pz.is_int_none, Pz.is_int_bool, Pz.is_int_int, Pz.is_int_str, Pz.is_int_list, Pz.is_int_tuple, Pz.is_int_dict, Pz.okT_bool, Pz.is_bool_none, Pz.is_bool_bool, Pz.is_bool_int, Pz.is_bool_str, Pz.is_bool_list, Pz.is_bool_tuple, Pz.is_bool_dict, Pz.okT_str, Pz.is_str_none, Pz.is_str_bool, Pz.is_str_int, Pz.is_str_str, Pz.is_str_list, Pz.is_str_tuple, Pz.is_str_dict, Pz.okT_tuple, Pz.is_tuple_none, Pz.is_tuple_bool, Pz.is_tuple_int, Pz.is_tuple_str, Pz.is_tuple_list, Pz.is_tuple_tuple, Pz.is_tuple_dict, Pz.okT_list, Pz.is_list_none, Pz.is_list_bool, Pz.is_list_int, Pz.is_list_str, Pz.is_list_list, Pz.is_list_tuple, Pz.is_list_dict, Pz.okT_dict, Pz.is_dict_none, Pz.is_dict_bool, Pz.is_dict_int, Pz.is_dict_str, Pz.is_dict_list, Pz.is_dict_tuple, Pz.is_dict_dict, ↓oFdiv, ↓oMod, ↓oMul, ↓oPow, ↓oBool, ↓oII, ↓oIsN, ↓oNotN, ↓oIn, ↓oInX, ↓oInQ, ↓oInT, ↓oIsB, ↓oIsBN, ↓oNotB, noneS, ↓ret_mk, ↓retN_mk, ↓bk_mk, ↓ct_mk, ↓expr_mk, ↓for_mk, truD, ↓oIxE, ↓mPopAt, ↓mIndex, ↓mInsert, ↓fIntS, ↓fStrN, ↓Pz.wJs_cons, ↓Pz.wJs_nil, at0, at1, at2, at3, ix10, ix20, ix21, ix30, ix31, ix32, Pz.len1, Pz.len2, Pz.len3, List.length_nil, List.length_cons, sh_int, sh_bl, sh_non, Int.reduceEq, reduceCtorEq, decide_true, decide_false, sh_nil, eqv_nn, eqv_nilL, List.isEmpty_map, sh_lit, List.flatten_replicate_singleton, List.length_replicate, eqv_int, Nat.zero_le, szL, Nat.reduceLeDiff, Nat.reduceAdd, ↓ret1_d, ↓ret1_o0, ↓ret1_o1, ↓ret1_o2, ↓ret0_o0, ↓ret_d, cl_lst, true_and, and_true, decide_eq_true_eq, ↓oSl, ↓oSlO, ↓fLen, ↓fAbs, ↓fInt, ↓fMaxE, ↓fMinE, ↓fSumE, ↓fAll, ↓fAny, ↓fList, ↓fListO, ↓fListE, ↓fListEO, ↓fTuple, ↓fSortedE, ↓fSortedS, ↓fSortedG, ↓fRep, ↓fRepX, ↓fRepZ, ↓fRepW, ↓fBool, vwJ_l, vwJ_t, vwS_l, vwS_t, vwB, dsOf, tyD, ↓mAppend, ↓mExtend, ↓mPop, ↓mReverse, ↓mSplit, ↓mSplitO, ↓mStrip, ↓mLstrip, ↓mRstrip, ↓mStr2, ↓mPart, ↓mJoinE, frzS, frzX, ↓excOf_o, ↓oDGetX, List.map_cons, List.map_nil, List.getElem?_cons_zero, List.getElem?_cons_succ, List.cons_append, List.nil_append, Bool.false_eq_true, Bool.true_eq_false, ↓reduceIte, p10_3, p10_6, p10_7, p10_9, p10_12, Option.map, ↓aQ, ↓aQO, ↓aFO, borS, atomD, ↓aXO, ↓oAddO, ↓oMulO, Option.some.injEq, exists_eq_left', exists_and_left, datO, datQ_d, ↓mCount, ↓mCountS, Bool.not_true, Bool.not_false, ↓F_column, ↓F_moved, ↓F_moves, ↓F_shortest_conversion, ↓F__law_draw, ↓F__law_size, ↓F__law_any, ↓F__law_column, ↓F__law_state, ↓F__law_moves, ↓F__law_layers, ↓F__law_told, ↓F__law_right, g_kwe_shortest_conversion_3_limit, sign9]
        rw [colL, if_neg (by decide)] at hc
        exact ⟨sh_sign (by decide), cdw h1 (by omega), .inr (small (by omega) (by omega)), ih _ _ ⟨l, _, _, rfl, rfl, rfl, hm2, hc⟩⟩
theorem ok__law_pen (T : Tx K mg base f_column f__law_pen f__law_draw f__law_column f__law_told f_moved f__law_size f__law_moves f_moves f__law_any f__law_layers f_next_layer f__law_state f_shortest_conversion f__law_right f_law fd_column fd__law_pen fd__law_draw fd__law_column fd__law_told fd_moved fd__law_size fd__law_moves fd_moves fd__law_any fd__law_layers fd_next_layer fd__law_state fd_shortest_conversion fd__law_right fd_law e__law_right) : FnD P w K mg base CX0 1 f__law_pen fd__law_pen ["_law_script"] sp__law_pen := by
  refine FnD.of0 T.d__law_pen.F sc__law_pen 0 _ (fun cdv A outer s H E Z0 hA hr hz => (dss_one (ds_ret (de_disp (dp_cons de_str (de_callTy cd_listE (call_listE rfl) rfl T.b_list (by decide +kernel) (da_cons (de_slice (de_v 0 (pv 0)) dpo_none (dpo_some de_int)) da_nil)) (dp_cons de_str de_int (dp_cons de_str de_int dp_nil))))))) ?_
  refine e1 fun a cs Qd Ed => ?_
  rintro ⟨ns, rfl, rfl, q⟩
  refine ⟨rfl, ?_⟩
  simp only [st__law_pen, ↓Pz.wC_ap, ↓Pz.wVar_ap, ↓Pz.wOp_ap, ↓Pz.wTest_ap, ↓Pz.wNil_ap, ↓Pz.wCons_ap, ↓Pz.wCall_ap, ↓Pz.wCallW_ap, ↓Pz.wApp_ap, ↓Pz.wLst_ap, ↓Pz.wTup_ap, ↓Pz.wLstO_ap, ↓Pz.wNoPart_ap, ↓Pz.wPart_ap, ↓Pz.wSl_ap, ↓Pz.wAnd_ap, ↓Pz.wOr_ap, ↓Pz.wNot_ap, ↓Pz.wAndV_ap, ↓Pz.wOrV_ap, ↓Pz.wNotV_ap, ↓Pz.wIfE_ap, ↓Pz.wTru_ap, ↓Pz.wChain_ap, ↓Pz.wNeg_ap, ↓Pz.wAug_ap, ↓Pz.gNm_ap, ↓Pz.gNl_ap, ↓Pz.gCn_ap, ↓Pz.gTp_ap, ↓Pz.wAsg_ap, ↓Pz.wItE_ap, ↓Pz.wRng1_ap, ↓Pz.wRng2_ap, ↓Pz.wYes_ap, ↓Pz.wLc_ap, ↓Pz.wLcO_ap, ↓Pz.wBM_ap, ↓Pz.wSetIx_ap, ↓Pz.wFrz_ap, ↓Pz.wCallF_ap, ↓Pz.wCallQ_ap, ↓Pz.wCallWF_ap, ↓Pz.wRev_ap, ↓Pz.wRg1_ap, ↓Pz.wRg2_ap, ↓Pz.wListRg_ap, ↓Pz.wRng3_ap, ↓Pz.wEnum_ap, ↓Pz.wZip_ap, ↓Pz.wCallQO_ap, ↓Pz.wDPut_ap, ↓Pz.wPNil_ap, ↓Pz.wPCons_ap, ↓Pz.wDisp_ap, ↓Pz.wDNew_ap, ↓Pz.wDNil_ap, ↓Pz.wEnumX_ap, ↓Pz.wCallE_ap, ↓Pz.wSlO_ap, ↓Pz.wEnumY_ap, ↓Pz.wDGet2_ap, ↓Pz.wMaxDf_ap, ↓Pz.wCallFO_ap, ↓Pz.wRevY_ap, ↓Pz.wFrzX_ap, ↓Pz.wSwp_ap, ↓Pz.wCallX_ap, ↓Pz.wCallXO_ap, ↓Pz.wCallWX_ap, ↓Pz.wRaise1_ap, ↓Pz.wRaise0_ap, ↓Pz.wTry_ap, ↓Pz.wIsE_ap, ↓Pz.wXf_ap, ↓Pz.wDispD_ap, ↓Pz.wSortLen_ap, ↓Pz.wGGet_ap, ↓Pz.wMinDf_ap, ↓Pz.wPar_ap, ↓Pz.wLam_ap, ↓Pz.wAct_ap, ↓Pz.wRep_ap, ↓Pz.wZipM_ap, ↓Pz.wLenSet_ap, ↓Pz.wBor_ap, ↓Pz.gTpL_ap, ↓Pz.wTupRg_ap, ↓Pz.wRevS_ap, ↓Pz.wFmt_ap, ↓Pz.wJoined_ap, ↓Pz.wAsgS_ap, ↓Pz.wPar3_ap, ↓Pz.wDc_ap, ↓Pz.wDGet3_ap, ↓Pz.wListV_ap, ↓Pz.wSumV_ap, ↓Pz.wDIn_ap, ↓Pz.wTGet2_ap, ↓Pz.wTPut_ap, ↓Pz.wDAug_ap, ↓Pz.wFrzL_ap, ↓Pz.wItV_ap, ↓Pz.wItI_ap, ↓Pz.wItK_ap, ↓Pz.wDisp1_ap, ↓Pz.wBorD_ap, ↓Pz.wDNewT_ap, ↓Pz.wCallFD_ap, ↓Pz.wDNew_ap, ↓Pz.wItC_ap, ↓Pz.wCallXE_ap, Pz.setAll, ↓Pz.wClose_ap, ↓Pz.wSetIxO_ap, ↓Pz.oIxS_ap, ↓Pz.wRaise3_ap, ↓Pz.oMulT_ap, Pz.dkX, Pz.unKD_kdD, Option.isSome_some, ↓Pz.wOrX_apS, ↓Pz.wAndX_apS, ↓Pz.orP_str, Pz.orP_some, Pz.orP_none, ↓oTGet, ↓oLtS, ↓oLtT, ↓fListKy, ↓fSortKy, ↓fLenD_o, ↓Pz.aFD, Pz.unD_K, Pz.unD_T, Pz.kyS_t, Pz.keysL_nil, Pz.keysL_ci, Pz.keysL_cs, ↓Pz.dtAt_o, Pz.dtAt_L, ↓Pz.dkAny_o, Pz.dkAny_D, Pz.dkAny_L, ↓Pz.dvAt_o, Pz.dvAt_D, Pz.dvAt_L, Pz.dvAt_T, ↓Pz.dkyS_o, Pz.dkyS_D, Pz.dkyS_L, Pz.dkyS_T, ↓Pz.dinS_o, Pz.dinS_D, Pz.dinS_L, Pz.dinS_T, Pz.lkP_K, Pz.lkP_T, ↓ret1_dT, cl_dt, Pz.lkOf_K, Pz.lkOf_T, Pz.xor_f, Pz.xor_t, Pz.hasD_int, Option.bind, Option.bind_some, List.set, ↓seq_mk, ↓wTrim_mk, trimS, List.take_succ_cons, List.take_zero, Nat.reduceLT, ↓nx_mk, ↓set_mk, ↓if_mk, nthS, ↓oEq, ↓oNe, vw, ↓oAdd, ↓oSub, ↓oIadd, ↓oDGet, keyOf_str, keyOf_int, keyS_str, keyS_int, ↓dkAt_o, valE_cells, valE_at, valE_left, putE_at, putE_left, mergeE, mergeD1, kvD1, keyD_s, keyD_i, ret1_dE, cl_dk, ↓fIsi, ↓fDivmod, ↓fStr, Pz.okT_int, Pz.is_int_none, Pz.is_int_bool, Pz.is_int_int, Pz.is_int_str, Pz.is_int_list, Pz.is_int_tuple, Pz.is_int_dict, Pz.okT_bool, Pz.is_bool_none, Pz.is_bool_bool, Pz.is_bool_int, Pz.is_bool_str, Pz.is_bool_list, Pz.is_bool_tuple, Pz.is_bool_dict, Pz.okT_str, Pz.is_str_none, Pz.is_str_bool, Pz.is_str_int, Pz.is_str_str, Pz.is_str_list, Pz.is_str_tuple, Pz.is_str_dict, Pz.okT_tuple, Pz.is_tuple_none, Pz.is_tuple_bool, Pz.is_tuple_int, Pz.is_tuple_str, Pz.is_tuple_list, Pz.is_tuple_tuple, Pz.is_tuple_dict, Pz.okT_list, Pz.is_list_none, Pz.is_list_bool, Pz.is_list_int, Pz.is_list_str, Pz.is_list_list, Pz.is_list_tuple, Pz.is_list_dict, Pz.okT_dict, Pz.is_dict_none, Pz.is_dict_bool, Pz.is_dict_int, Pz.is_dict_str, Pz.is_dict_list, Pz.is_dict_tuple, Pz.is_dict_dict, ↓oFdiv, ↓oMod, ↓oMul, ↓oPow, ↓oBool, ↓oII, ↓oIsN, ↓oNotN, ↓oIn, ↓oInX, ↓oInQ, ↓oInT, ↓oIsB, ↓oIsBN, ↓oNotB, noneS, ↓ret_mk, ↓retN_mk, ↓bk_mk, ↓ct_mk, ↓expr_mk, ↓for_mk, truD, ↓oIxE, ↓mPopAt, ↓mIndex, ↓mInsert, ↓fIntS, ↓fStrN, ↓Pz.wJs_cons, ↓Pz.wJs_nil, at0, at1, at2, at3, ix10, ix20, ix21, ix30, ix31, ix32, Pz.len1, Pz.len2, Pz.len3, List.length_nil, List.length_cons, sh_int, sh_bl, sh_non, Int.reduceEq, reduceCtorEq, decide_true, decide_false, sh_nil, eqv_nn, eqv_nilL, List.isEmpty_map, sh_lit, List.flatten_replicate_singleton, List.length_replicate, eqv_int, Nat.zero_le, szL, Nat.reduceLeDiff, Nat.reduceAdd, ↓ret1_d, ↓ret1_o0, ↓ret1_o1, ↓ret1_o2, ↓ret0_o0, ↓ret_d, cl_lst, true_and, and_true, decide_eq_true_eq, ↓oSl, ↓oSlO, ↓fLen, ↓fAbs, ↓fInt, ↓fMaxE, ↓fMinE, ↓fSumE, ↓fAll, ↓fAny, ↓fList, ↓fListO, ↓fListE, ↓fListEO, ↓fTuple, ↓fSortedE, ↓fSortedS, ↓fSortedG, ↓fRep, ↓fRepX, ↓fRepZ, ↓fRepW, ↓fBool, vwJ_l, vwJ_t, vwS_l, vwS_t, vwB, dsOf, tyD, ↓mAppend, ↓mExtend, ↓mPop, ↓mReverse, ↓mSplit, ↓mSplitO, ↓mStrip, ↓mLstrip, ↓mRstrip, ↓mStr2, ↓mPart, ↓mJoinE, frzS, frzX, ↓excOf_o, ↓oDGetX, List.map_cons, List.map_nil, List.getElem?_cons_zero, List.getElem?_cons_succ, List.cons_append, List.nil_append, Bool.false_eq_true, Bool.true_eq_false, ↓reduceIte, p10_3, p10_6, p10_7, p10_9, p10_12, Option.map, ↓aQ, ↓aQO, ↓aFO, borS, atomD, ↓aXO, ↓oAddO, ↓oMulO, Option.some.injEq, exists_eq_left', exists_and_left, datO, datQ_d, ↓mCount, ↓mCountS, Bool.not_true, Bool.not_false, ↓F_column, ↓F_moved, ↓F_moves, ↓F_shortest_conversion, ↓F__law_draw, ↓F__law_size, ↓F__law_any, ↓F__law_column, ↓F__law_state, ↓F__law_moves, ↓F__law_layers, ↓F__law_told, ↓F__law_right, g_kwe_shortest_conversion_3_limit]
  refine q _ ⟨_, 0, 0, rfl, ?_, by omega, by omega, by omega⟩
  rw [show Pz.cutD ns none (some 63) = (ns.drop 0).take (HT.sIx ns.length ns.length (some 63) - 0) from rfl, List.length_take]
  have : HT.sIx ns.length ns.length (some 63) ≤ 63 := by
    simp [HT.sIx]
    omega
  omega
theorem ok__law_draw (T : Tx K mg base f_column f__law_pen f__law_draw f__law_column f__law_told f_moved f__law_size f__law_moves f_moves f__law_any f__law_layers f_next_layer f__law_state f_shortest_conversion f__law_right f_law fd_column fd__law_pen fd__law_draw fd__law_column fd__law_told fd_moved fd__law_size fd__law_moves fd_moves fd__law_any fd__law_layers fd_next_layer fd__law_state fd_shortest_conversion fd__law_right fd_law e__law_right) : FnD P w K mg base CX0 1 f__law_draw fd__law_draw ["_law_pen_here", "_law_many"] sp__law_draw := by
  refine FnD.of0 T.d__law_draw.F sc__law_draw 1 _ (fun cdv A outer s H E Z0 hA hr hz => (dss_cons (ds_if (dt_cmp d2_bool op_gt (de_dget (u1 hr) (de_v 0 (pv 0)) de_str) de_int (nomark _)) (dss_cons (ds_set 6 sc__law_draw.nd (de_op d2_mod op_mod (de_dget (u1 hr) (de_v 0 (pv 0)) de_str) (de_v 1 (pv 1))))
      (dss_cons (ds_dput (u1 hr) (de_op d2_fdiv op_fdivW (de_dget (u1 hr) (de_v 0 (pv 0)) de_str) (de_v 1 (pv 1))) (de_v 0 (pv 0)) de_str)
      (dss_one (ds_ret (de_v 6 (pv 6)))))) dss_nil)
      (dss_cons (ds_set 2 sc__law_draw.nd (de_dget (u1 hr) (de_v 0 (pv 0)) de_str))
      (dss_cons (ds_dput (u1 hr) (de_op d2_add op_addR (de_v 2 (pv 2)) de_int) (de_v 0 (pv 0)) de_str)
      (dss_cons (ds_set 3 sc__law_draw.nd (de_op d2_add op_addR (de_op d2_mul op_mulR de_int (de_v 2 (pv 2))) de_int))
      (dss_cons (ds_if (dt_cmp d2_ne (op_neD hr.units) (de_dget (u1 hr) (de_v 0 (pv 0)) de_str) (de_lst da_nil) (nomark _)) (dss_one (ds_set 3 sc__law_draw.nd (de_ixE (de_dget (u1 hr) (de_v 0 (pv 0)) de_str) (de_op d2_mod op_mod (de_v 2 (pv 2)) (de_callB cd_len call_len rfl T.b_len (by decide +kernel) (da_cons (de_dget (u1 hr) (de_v 0 (pv 0)) de_str) da_nil)))))) dss_nil)
      (dss_cons (ds_if (DWs.dt (dw_and (dt_cmp d2_bool op_lt (de_v 2 (pv 2)) (de_callB cd_len call_len rfl T.b_len (by decide +kernel) (da_cons (de_dget (u1 hr) (de_v 0 (pv 0)) de_str) da_nil)) (nomark _)) (dw_and1 (dt_cmp d2_bool op_ge (de_callB cd_abs call_abs rfl T.b_abs (by decide +kernel) (da_cons (de_v 3 (pv 3)) da_nil)) (de_op d2_pow op_pow de_int de_int) (nomark _))))) (dss_cons (ds_set 7 sc__law_draw.nd (de_op d2_add op_addR (de_op d2_mul op_mulR de_int (de_op d2_sub op_sub (de_callB cd_abs call_abs rfl T.b_abs (by decide +kernel) (da_cons (de_v 3 (pv 3)) da_nil)) (de_op d2_pow op_pow de_int de_int))) (de_callTy cd_int call_int1 rfl T.b_int (by decide +kernel) (da_cons (de_cmp d2_bool op_lt (de_v 3 (pv 3)) de_int (nomark _)) da_nil))))
      (dss_cons (ds_dput (u1 hr) (de_op d2_fdiv op_fdivW (de_v 7 (pv 7)) (de_v 1 (pv 1))) (de_v 0 (pv 0)) de_str)
      (dss_one (ds_ret (de_op d2_mod op_mod (de_v 7 (pv 7)) (de_v 1 (pv 1))))))) dss_nil)
      (dss_cons (ds_set 4 sc__law_draw.nd (de_op d2_mod op_mod (de_op d2_pow op_pow (de_op d2_add op_addR (de_op d2_add op_addR (de_op d2_mod op_mod (de_v 3 (pv 3)) de_int) (de_op d2_mul op_mulR de_int (de_v 2 (pv 2)))) de_int) de_int) de_int))
      (dss_cons (ds_set 5 sc__law_draw.nd (de_op d2_mod op_mod (de_op d2_pow op_pow (de_op d2_add op_addR (de_op d2_mul op_mulR (de_v 4 (pv 4)) (de_op d2_add op_addR (de_v 2 (pv 2)) de_int)) (de_op d2_mul op_mulR (de_op d2_mul op_mulR de_int (de_v 2 (pv 2))) (de_v 2 (pv 2)))) de_int) de_int))
      (dss_one (ds_ret (de_op d2_mod op_mod (de_op d2_fdiv op_fdivW (de_v 5 (pv 5)) de_int) (de_v 1 (pv 1)))))))))))))) ?_
  refine ho__law_draw fun m c n Qd p hn ⟨h6, h7⟩ q => ?_
  obtain ⟨ds, i, l, rfl, h1, h2, h3, h4⟩ := p
  have i0 : i ≤ 1000000 := by omega
  have s1 : 0 ≤ 70009 * i * i := Int.mul_nonneg (by omega) h2
  have s2 : 70009 * i * i ≤ 70009 * 1000000 * 1000000 := Int.mul_le_mul (by omega) i0 h2 (by omega)
  have q' : ∀ j l', 0 ≤ l' → (j = i ∨ j = i + 1) → ∀ r, Qd (.d (.int (r % m))) [.dK [(.inr "cells", .list (ds.map .int)), (.inr "at", .int j), (.inr "left", .int l')]] := fun j l' z e r => q _ (Int.emod_nonneg _ (by omega)) (Int.emod_lt_of_pos _ h6) _ ⟨ds, j, l', rfl, h1, by omega, by omega, z⟩
  simp only [st__law_draw, ↓Pz.wC_ap, ↓Pz.wVar_ap, ↓Pz.wOp_ap, ↓Pz.wTest_ap, ↓Pz.wNil_ap, ↓Pz.wCons_ap, ↓Pz.wCall_ap, ↓Pz.wCallW_ap, ↓Pz.wApp_ap, ↓Pz.wLst_ap, ↓Pz.wTup_ap, ↓Pz.wLstO_ap, ↓Pz.wNoPart_ap, ↓Pz.wPart_ap, ↓Pz.wSl_ap, ↓Pz.wAnd_ap, ↓Pz.wOr_ap, ↓Pz.wNot_ap, ↓Pz.wAndV_ap, ↓Pz.wOrV_ap, ↓Pz.wNotV_ap, ↓Pz.wIfE_ap, ↓Pz.wTru_ap, ↓Pz.wChain_ap, ↓Pz.wNeg_ap, ↓Pz.wAug_ap, ↓Pz.gNm_ap, ↓Pz.gNl_ap, ↓Pz.gCn_ap, ↓Pz.gTp_ap, ↓Pz.wAsg_ap, ↓Pz.wItE_ap, ↓Pz.wRng1_ap, ↓Pz.wRng2_ap, ↓Pz.wYes_ap, ↓Pz.wLc_ap, ↓Pz.wLcO_ap, ↓Pz.wBM_ap, ↓Pz.wSetIx_ap, ↓Pz.wFrz_ap, ↓Pz.wCallF_ap, ↓Pz.wCallQ_ap, ↓Pz.wCallWF_ap, ↓Pz.wRev_ap, ↓Pz.wRg1_ap, ↓Pz.wRg2_ap, ↓Pz.wListRg_ap, ↓Pz.wRng3_ap, ↓Pz.wEnum_ap, ↓Pz.wZip_ap, ↓Pz.wCallQO_ap, ↓Pz.wDPut_ap, ↓Pz.wPNil_ap, ↓Pz.wPCons_ap, ↓Pz.wDisp_ap, ↓Pz.wDNew_ap, ↓Pz.wDNil_ap, ↓Pz.wEnumX_ap, ↓Pz.wCallE_ap, ↓Pz.wSlO_ap, ↓Pz.wEnumY_ap, ↓Pz.wDGet2_ap, ↓Pz.wMaxDf_ap, ↓Pz.wCallFO_ap, ↓Pz.wRevY_ap, ↓Pz.wFrzX_ap, ↓Pz.wSwp_ap, ↓Pz.wCallX_ap, ↓Pz.wCallXO_ap, ↓Pz.wCallWX_ap, ↓Pz.wRaise1_ap, ↓Pz.wRaise0_ap, ↓Pz.wTry_ap, ↓Pz.wIsE_ap, ↓Pz.wXf_ap, ↓Pz.wDispD_ap, ↓Pz.wSortLen_ap, ↓Pz.wGGet_ap, ↓Pz.wMinDf_ap, ↓Pz.wPar_ap, ↓Pz.wLam_ap, ↓Pz.wAct_ap, ↓Pz.wRep_ap, ↓Pz.wZipM_ap, ↓Pz.wLenSet_ap, ↓Pz.wBor_ap, ↓Pz.gTpL_ap, ↓Pz.wTupRg_ap, ↓Pz.wRevS_ap, ↓Pz.wFmt_ap, ↓Pz.wJoined_ap, ↓Pz.wAsgS_ap, ↓Pz.wPar3_ap, ↓Pz.wDc_ap, ↓Pz.wDGet3_ap, ↓Pz.wListV_ap, ↓Pz.wSumV_ap, ↓Pz.wDIn_ap, ↓Pz.wTGet2_ap, ↓Pz.wTPut_ap, ↓Pz.wDAug_ap, ↓Pz.wFrzL_ap, ↓Pz.wItV_ap, ↓Pz.wItI_ap, ↓Pz.wItK_ap, ↓Pz.wDisp1_ap, ↓Pz.wBorD_ap, ↓Pz.wDNewT_ap, ↓Pz.wCallFD_ap, ↓Pz.wDNew_ap, ↓Pz.wItC_ap, ↓Pz.wCallXE_ap, Pz.setAll, ↓Pz.wClose_ap, ↓Pz.wSetIxO_ap, ↓Pz.oIxS_ap, ↓Pz.wRaise3_ap, ↓Pz.oMulT_ap, Pz.dkX, Pz.unKD_kdD, Option.isSome_some, ↓Pz.wOrX_apS, ↓Pz.wAndX_apS, ↓Pz.orP_str, Pz.orP_some, Pz.orP_none, ↓oTGet, ↓oLtS, ↓oLtT, ↓fListKy, ↓fSortKy, ↓fLenD_o, ↓Pz.aFD, Pz.unD_K, Pz.unD_T, Pz.kyS_t, Pz.keysL_nil, Pz.keysL_ci, Pz.keysL_cs, ↓Pz.dtAt_o, Pz.dtAt_L, ↓Pz.dkAny_o, Pz.dkAny_D, Pz.dkAny_L, ↓Pz.dvAt_o, Pz.dvAt_D, Pz.dvAt_L, Pz.dvAt_T, ↓Pz.dkyS_o, Pz.dkyS_D, Pz.dkyS_L, Pz.dkyS_T, ↓Pz.dinS_o, Pz.dinS_D, Pz.dinS_L, Pz.dinS_T, Pz.lkP_K, Pz.lkP_T, ↓ret1_dT, cl_dt, Pz.lkOf_K, Pz.lkOf_T, Pz.xor_f, Pz.xor_t, Pz.hasD_int, Option.bind, Option.bind_some, List.set, ↓seq_mk, ↓wTrim_mk, trimS, List.take_succ_cons, List.take_zero, Nat.reduceLT, ↓nx_mk, ↓set_mk, ↓if_mk, nthS, ↓oEq, ↓oNe, vw, ↓oAdd, ↓oSub, ↓oIadd, ↓oDGet, keyOf_str, keyOf_int, keyS_str, keyS_int, ↓dkAt_o, valE_cells, valE_at, valE_left, putE_at, putE_left, mergeE, mergeD1, kvD1, keyD_s, keyD_i, ret1_dE, cl_dk, ↓fIsi, ↓fDivmod, ↓fStr, Pz.okT_int, Pz.is_int_none, Pz.is_int_bool, Pz.is_int_int, Pz.is_int_str, Pz.is_int_list, Pz.is_int_tuple, Pz.is_int_dict, Pz.okT_bool, Pz.is_bool_none, Pz.is_bool_bool, Pz.is_bool_int, Pz.is_bool_str, Pz.is_bool_list, Pz.is_bool_tuple, Pz.is_bool_dict, Pz.okT_str, Pz.is_str_none, Pz.is_str_bool, Pz.is_str_int, Pz.is_str_str, Pz.is_str_list, Pz.is_str_tuple, Pz.is_str_dict, Pz.okT_tuple, Pz.is_tuple_none, Pz.is_tuple_bool, Pz.is_tuple_int, Pz.is_tuple_str, Pz.is_tuple_list, Pz.is_tuple_tuple, Pz.is_tuple_dict, Pz.okT_list, Pz.is_list_none, Pz.is_list_bool, Pz.is_list_int, Pz.is_list_str, Pz.is_list_list, Pz.is_list_tuple, Pz.is_list_dict, Pz.okT_dict, Pz.is_dict_none, Pz.is_dict_bool, Pz.is_dict_int, Pz.is_dict_str, Pz.is_dict_list, Pz.is_dict_tuple, Pz.is_dict_dict, ↓oFdiv, ↓oMod, ↓oMul, ↓oPow, ↓oBool, ↓oII, ↓oIsN, ↓oNotN, ↓oIn, ↓oInX, ↓oInQ, ↓oInT, ↓oIsB, ↓oIsBN, ↓oNotB, noneS, ↓ret_mk, ↓retN_mk, ↓bk_mk, ↓ct_mk, ↓expr_mk, ↓for_mk, truD, ↓oIxE, ↓mPopAt, ↓mIndex, ↓mInsert, ↓fIntS, ↓fStrN, ↓Pz.wJs_cons, ↓Pz.wJs_nil, at0, at1, at2, at3, ix10, ix20, ix21, ix30, ix31, ix32, Pz.len1, Pz.len2, Pz.len3, List.length_nil, List.length_cons, sh_int, sh_bl, sh_non, Int.reduceEq, reduceCtorEq, decide_true, decide_false, sh_nil, eqv_nn, eqv_nilL, List.isEmpty_map, sh_lit, List.flatten_replicate_singleton, List.length_replicate, eqv_int, Nat.zero_le, szL, Nat.reduceLeDiff, Nat.reduceAdd, ↓ret1_d, ↓ret1_o0, ↓ret1_o1, ↓ret1_o2, ↓ret0_o0, ↓ret_d, cl_lst, true_and, and_true, decide_eq_true_eq, ↓oSl, ↓oSlO, ↓fLen, ↓fAbs, ↓fInt, ↓fMaxE, ↓fMinE, ↓fSumE, ↓fAll, ↓fAny, ↓fList, ↓fListO, ↓fListE, ↓fListEO, ↓fTuple, ↓fSortedE, ↓fSortedS, ↓fSortedG, ↓fRep, ↓fRepX, ↓fRepZ, ↓fRepW, ↓fBool, vwJ_l, vwJ_t, vwS_l, vwS_t, vwB, dsOf, tyD, ↓mAppend, ↓mExtend, ↓mPop, ↓mReverse, ↓mSplit, ↓mSplitO, ↓mStrip, ↓mLstrip, ↓mRstrip, ↓mStr2, ↓mPart, ↓mJoinE, frzS, frzX, ↓excOf_o, ↓oDGetX, List.map_cons, List.map_nil, List.getElem?_cons_zero, List.getElem?_cons_succ, List.cons_append, List.nil_append, Bool.false_eq_true, Bool.true_eq_false, ↓reduceIte, p10_3, p10_6, p10_7, p10_9, p10_12, Option.map, ↓aQ, ↓aQO, ↓aFO, borS, atomD, ↓aXO, ↓oAddO, ↓oMulO, Option.some.injEq, exists_eq_left', exists_and_left, datO, datQ_d, ↓mCount, ↓mCountS, Bool.not_true, Bool.not_false, ↓F_column, ↓F_moved, ↓F_moves, ↓F_shortest_conversion, ↓F__law_draw, ↓F__law_size, ↓F__law_any, ↓F__law_column, ↓F__law_state, ↓F__law_moves, ↓F__law_layers, ↓F__law_told, ↓F__law_right, g_kwe_shortest_conversion_3_limit, sh_ints, eqv_nil]
  split
  · exact ⟨h6, cdw h6 h7, q' _ _ (Int.ediv_nonneg h4 (by omega)) (.inl rfl) _⟩
  · refine ⟨.inl (small (by omega) (by omega)), ?_⟩
    by_cases hd : ds = []
    · subst hd
      simp only [List.isEmpty_nil, ↓Pz.wC_ap, ↓Pz.wVar_ap, ↓Pz.wOp_ap, ↓Pz.wTest_ap, ↓Pz.wNil_ap, ↓Pz.wCons_ap, ↓Pz.wCall_ap, ↓Pz.wCallW_ap, ↓Pz.wApp_ap, ↓Pz.wLst_ap, ↓Pz.wTup_ap, ↓Pz.wLstO_ap, ↓Pz.wNoPart_ap, ↓Pz.wPart_ap, ↓Pz.wSl_ap, ↓Pz.wAnd_ap, ↓Pz.wOr_ap, ↓Pz.wNot_ap, ↓Pz.wAndV_ap, ↓Pz.wOrV_ap, ↓Pz.wNotV_ap, ↓Pz.wIfE_ap, ↓Pz.wTru_ap, ↓Pz.wChain_ap, ↓Pz.wNeg_ap, ↓Pz.wAug_ap, ↓Pz.gNm_ap, ↓Pz.gNl_ap, ↓Pz.gCn_ap, ↓Pz.gTp_ap, ↓Pz.wAsg_ap, ↓Pz.wItE_ap, ↓Pz.wRng1_ap, ↓Pz.wRng2_ap, ↓Pz.wYes_ap, ↓Pz.wLc_ap, ↓Pz.wLcO_ap, ↓Pz.wBM_ap, ↓Pz.wSetIx_ap, ↓Pz.wFrz_ap, ↓Pz.wCallF_ap, ↓Pz.wCallQ_ap, ↓Pz.wCallWF_ap, ↓Pz.wRev_ap, ↓Pz.wRg1_ap, ↓Pz.wRg2_ap, ↓Pz.wListRg_ap, ↓Pz.wRng3_ap, ↓Pz.wEnum_ap, ↓Pz.wZip_ap, ↓Pz.wCallQO_ap, ↓Pz.wDPut_ap, ↓Pz.wPNil_ap, ↓Pz.wPCons_ap, ↓Pz.wDisp_ap, ↓Pz.wDNew_ap, ↓Pz.wDNil_ap, ↓Pz.wEnumX_ap, ↓Pz.wCallE_ap, ↓Pz.wSlO_ap, ↓Pz.wEnumY_ap, ↓Pz.wDGet2_ap, ↓Pz.wMaxDf_ap, ↓Pz.wCallFO_ap, ↓Pz.wRevY_ap, ↓Pz.wFrzX_ap, ↓Pz.wSwp_ap, ↓Pz.wCallX_ap, ↓Pz.wCallXO_ap, ↓Pz.wCallWX_ap, ↓Pz.wRaise1_ap, ↓Pz.wRaise0_ap, ↓Pz.wTry_ap, ↓Pz.wIsE_ap, ↓Pz.wXf_ap, ↓Pz.wDispD_ap, ↓Pz.wSortLen_ap, ↓Pz.wGGet_ap, ↓Pz.wMinDf_ap, ↓Pz.wPar_ap, ↓Pz.wLam_ap, ↓Pz.wAct_ap, ↓Pz.wRep_ap, ↓Pz.wZipM_ap, ↓Pz.wLenSet_ap, ↓Pz.wBor_ap, ↓Pz.gTpL_ap, ↓Pz.wTupRg_ap, ↓Pz.wRevS_ap, ↓Pz.wFmt_ap, ↓Pz.wJoined_ap, ↓Pz.wAsgS_ap, ↓Pz.wPar3_ap, ↓Pz.wDc_ap, ↓Pz.wDGet3_ap, ↓Pz.wListV_ap, ↓Pz.wSumV_ap, ↓Pz.wDIn_ap, ↓Pz.wTGet2_ap, ↓Pz.wTPut_ap, ↓Pz.wDAug_ap, ↓Pz.wFrzL_ap, ↓Pz.wItV_ap, ↓Pz.wItI_ap, ↓Pz.wItK_ap, ↓Pz.wDisp1_ap, ↓Pz.wBorD_ap, ↓Pz.wDNewT_ap, ↓Pz.wCallFD_ap, ↓Pz.wDNew_ap, ↓Pz.wItC_ap, ↓Pz.wCallXE_ap, Pz.setAll, ↓Pz.wClose_ap, ↓Pz.wSetIxO_ap, ↓Pz.oIxS_ap, ↓Pz.wRaise3_ap, ↓Pz.oMulT_ap, Pz.dkX, Pz.unKD_kdD, Option.isSome_some, ↓Pz.wOrX_apS, ↓Pz.wAndX_apS, ↓Pz.orP_str, Pz.orP_some, Pz.orP_none, ↓oTGet, ↓oLtS, ↓oLtT, ↓fListKy, ↓fSortKy, ↓fLenD_o, ↓Pz.aFD, Pz.unD_K, Pz.unD_T, Pz.kyS_t, Pz.keysL_nil, Pz.keysL_ci, Pz.keysL_cs, ↓Pz.dtAt_o, Pz.dtAt_L, ↓Pz.dkAny_o, Pz.dkAny_D, Pz.dkAny_L, ↓Pz.dvAt_o, Pz.dvAt_D, Pz.dvAt_L, Pz.dvAt_T, ↓Pz.dkyS_o, Pz.dkyS_D, Pz.dkyS_L, Pz.dkyS_T, ↓Pz.dinS_o, Pz.dinS_D, Pz.dinS_L, Pz.dinS_T, Pz.lkP_K, Pz.lkP_T, ↓ret1_dT, cl_dt, Pz.lkOf_K, Pz.lkOf_T, Pz.xor_f, Pz.xor_t, Pz.hasD_int, Option.bind, Option.bind_some, List.set, ↓seq_mk, ↓wTrim_mk, trimS, List.take_succ_cons, List.take_zero, Nat.reduceLT, ↓nx_mk, ↓set_mk, ↓if_mk, nthS, ↓oEq, ↓oNe, vw, ↓oAdd, ↓oSub, ↓oIadd, ↓oDGet, keyOf_str, keyOf_int, keyS_str, keyS_int, ↓dkAt_o, valE_cells, valE_at, valE_left, putE_at, putE_left, mergeE, mergeD1, kvD1, keyD_s, keyD_i, ret1_dE, cl_dk, ↓fIsi, ↓fDivmod, ↓fStr, Pz.okT_int, Pz.is_int_none, Pz.is_int_bool, Pz.is_int_int, Pz.is_int_str, Pz.is_int_list, Pz.is_int_tuple, Pz.is_int_dict, Pz.okT_bool, Pz.is_bool_none, Pz.is_bool_bool, Pz.is_bool_int, Pz.is_bool_str, Pz.is_bool_list, Pz.is_bool_tuple, Pz.is_bool_dict, Pz.okT_str, Pz.is_str_none, Pz.is_str_bool, Pz.is_str_int, Pz.is_str_str, Pz.is_str_list, Pz.is_str_tuple, Pz.is_str_dict, Pz.okT_tuple, Pz.is_tuple_none, Pz.is_tuple_bool, Pz.is_tuple_int, Pz.is_tuple_str, Pz.is_tuple_list, Pz.is_tuple_tuple, Pz.is_tuple_dict, Pz.okT_list, Pz.is_list_none, Pz.is_list_bool, Pz.is_list_int, Pz.is_list_str, Pz.is_list_list, Pz.is_list_tuple, Pz.is_list_dict, Pz.okT_dict, Pz.is_dict_none, Pz.is_dict_bool, Pz.is_dict_int, Pz.is_dict_str, Pz.is_dict_list, Pz.is_dict_tuple, Pz.is_dict_dict, ↓oFdiv, ↓oMod, ↓oMul, ↓oPow, ↓oBool, ↓oII, ↓oIsN, ↓oNotN, ↓oIn, ↓oInX, ↓oInQ, ↓oInT, ↓oIsB, ↓oIsBN, ↓oNotB, noneS, ↓ret_mk, ↓retN_mk, ↓bk_mk, ↓ct_mk, ↓expr_mk, ↓for_mk, truD, ↓oIxE, ↓mPopAt, ↓mIndex, ↓mInsert, ↓fIntS, ↓fStrN, ↓Pz.wJs_cons, ↓Pz.wJs_nil, at0, at1, at2, at3, ix10, ix20, ix21, ix30, ix31, ix32, Pz.len1, Pz.len2, Pz.len3, List.length_nil, List.length_cons, sh_int, sh_bl, sh_non, Int.reduceEq, reduceCtorEq, decide_true, decide_false, sh_nil, eqv_nn, eqv_nilL, List.isEmpty_map, sh_lit, List.flatten_replicate_singleton, List.length_replicate, eqv_int, Nat.zero_le, szL, Nat.reduceLeDiff, Nat.reduceAdd, ↓ret1_d, ↓ret1_o0, ↓ret1_o1, ↓ret1_o2, ↓ret0_o0, ↓ret_d, cl_lst, true_and, and_true, decide_eq_true_eq, ↓oSl, ↓oSlO, ↓fLen, ↓fAbs, ↓fInt, ↓fMaxE, ↓fMinE, ↓fSumE, ↓fAll, ↓fAny, ↓fList, ↓fListO, ↓fListE, ↓fListEO, ↓fTuple, ↓fSortedE, ↓fSortedS, ↓fSortedG, ↓fRep, ↓fRepX, ↓fRepZ, ↓fRepW, ↓fBool, vwJ_l, vwJ_t, vwS_l, vwS_t, vwB, dsOf, tyD, ↓mAppend, ↓mExtend, ↓mPop, ↓mReverse, ↓mSplit, ↓mSplitO, ↓mStrip, ↓mLstrip, ↓mRstrip, ↓mStr2, ↓mPart, ↓mJoinE, frzS, frzX, ↓excOf_o, ↓oDGetX, List.map_cons, List.map_nil, List.getElem?_cons_zero, List.getElem?_cons_succ, List.cons_append, List.nil_append, Bool.false_eq_true, Bool.true_eq_false, ↓reduceIte, p10_3, p10_6, p10_7, p10_9, p10_12, Option.map, ↓aQ, ↓aQO, ↓aFO, borS, atomD, ↓aXO, ↓oAddO, ↓oMulO, Option.some.injEq, exists_eq_left', exists_and_left, datO, datQ_d, ↓mCount, ↓mCountS, Bool.not_true, Bool.not_false, ↓F_column, ↓F_moved, ↓F_moves, ↓F_shortest_conversion, ↓F__law_draw, ↓F__law_size, ↓F__law_any, ↓F__law_column, ↓F__law_state, ↓F__law_moves, ↓F__law_layers, ↓F__law_told, ↓F__law_right, g_kwe_shortest_conversion_3_limit, List.length_map]
      rw [if_neg (by simpa using h2)]
      have f1 := Int.emod_nonneg (2203 * i + 811) (by omega : (2147483579 : Int) ≠ 0)
      have f2 := Int.emod_lt_of_pos (2203 * i + 811) (by omega : (0 : Int) < 2147483579)
      generalize (2203 * i + 811) % 2147483579 = C at *
      repeat (first | refine And.intro (by omega) ?_ | refine And.intro (.inl (small (by omega) (by omega))) ?_ | refine And.intro (.inr (small (by omega) (by omega))) ?_ | refine And.intro (cpow (by omega) (by omega) (by omega) (by omega)) ?_ | refine And.intro (cdw (by omega) (by omega)) ?_)
      generalize hM : (C + 81001 * i + 67) ^ Int.toNat 5 % 2147483647 = M
      have g1 : 0 ≤ M := by rw [← hM]; exact Int.emod_nonneg _ (by omega)
      have g2 : M < 2147483647 := by rw [← hM]; exact Int.emod_lt_of_pos _ (by omega)
      have g3 : 0 ≤ M * (i + 65537) := Int.mul_nonneg g1 (by omega)
      have g4 : M * (i + 65537) ≤ 2147483647 * 1065537 := Int.mul_le_mul (by omega) (by omega) (by omega) (by omega)
      repeat (first | refine And.intro (by omega) ?_ | refine And.intro (.inl (small (by omega) (by omega))) ?_ | refine And.intro (.inr (small (by omega) (by omega))) ?_ | refine And.intro (cpow (by omega) (by omega) (by omega) (by omega)) ?_ | refine And.intro (cdw (by omega) (by omega)) ?_)
      exact q' _ _ h4 (.inr rfl) _
    · have he : ds.isEmpty = false := by cases ds with | nil => exact absurd rfl hd | cons _ _ => rfl
      have hp : 0 < ((ds.map PyData.int).length : Int) := by cases ds with | nil => exact absurd rfl hd | cons _ _ => simp only [List.map_cons, List.length_cons]; omega
      obtain ⟨y, e, my⟩ := atI_lt (xs := ds.map PyData.int) (i := i % (ds.map PyData.int).length) (Int.emod_nonneg _ (by omega)) (Int.emod_lt_of_pos _ hp)
      obtain ⟨v, _, rfl⟩ := List.mem_map.mp my
      simp only [he, e, ↓Pz.wC_ap, ↓Pz.wVar_ap, ↓Pz.wOp_ap, ↓Pz.wTest_ap, ↓Pz.wNil_ap, ↓Pz.wCons_ap, ↓Pz.wCall_ap, ↓Pz.wCallW_ap, ↓Pz.wApp_ap, ↓Pz.wLst_ap, ↓Pz.wTup_ap, ↓Pz.wLstO_ap, ↓Pz.wNoPart_ap, ↓Pz.wPart_ap, ↓Pz.wSl_ap, ↓Pz.wAnd_ap, ↓Pz.wOr_ap, ↓Pz.wNot_ap, ↓Pz.wAndV_ap, ↓Pz.wOrV_ap, ↓Pz.wNotV_ap, ↓Pz.wIfE_ap, ↓Pz.wTru_ap, ↓Pz.wChain_ap, ↓Pz.wNeg_ap, ↓Pz.wAug_ap, ↓Pz.gNm_ap, ↓Pz.gNl_ap, ↓Pz.gCn_ap, ↓Pz.gTp_ap, ↓Pz.wAsg_ap, ↓Pz.wItE_ap, ↓Pz.wRng1_ap, ↓Pz.wRng2_ap, ↓Pz.wYes_ap, ↓Pz.wLc_ap, ↓Pz.wLcO_ap, ↓Pz.wBM_ap, ↓Pz.wSetIx_ap, ↓Pz.wFrz_ap, ↓Pz.wCallF_ap, ↓Pz.wCallQ_ap, ↓Pz.wCallWF_ap, ↓Pz.wRev_ap, ↓Pz.wRg1_ap, ↓Pz.wRg2_ap, ↓Pz.wListRg_ap, ↓Pz.wRng3_ap, ↓Pz.wEnum_ap, ↓Pz.wZip_ap, ↓Pz.wCallQO_ap, ↓Pz.wDPut_ap, ↓Pz.wPNil_ap, ↓Pz.wPCons_ap, ↓Pz.wDisp_ap, ↓Pz.wDNew_ap, ↓Pz.wDNil_ap, ↓Pz.wEnumX_ap, ↓Pz.wCallE_ap, ↓Pz.wSlO_ap, ↓Pz.wEnumY_ap, ↓Pz.wDGet2_ap, ↓Pz.wMaxDf_ap, ↓Pz.wCallFO_ap, ↓Pz.wRevY_ap, ↓Pz.wFrzX_ap, ↓Pz.wSwp_ap, ↓Pz.wCallX_ap, ↓Pz.wCallXO_ap, ↓Pz.wCallWX_ap, ↓Pz.wRaise1_ap, ↓Pz.wRaise0_ap, ↓Pz.wTry_ap, ↓Pz.wIsE_ap, ↓Pz.wXf_ap, ↓Pz.wDispD_ap, ↓Pz.wSortLen_ap, ↓Pz.wGGet_ap, ↓Pz.wMinDf_ap, ↓Pz.wPar_ap, ↓Pz.wLam_ap, ↓Pz.wAct_ap, ↓Pz.wRep_ap, ↓Pz.wZipM_ap, ↓Pz.wLenSet_ap, ↓Pz.wBor_ap, ↓Pz.gTpL_ap, ↓Pz.wTupRg_ap, ↓Pz.wRevS_ap, ↓Pz.wFmt_ap, ↓Pz.wJoined_ap, ↓Pz.wAsgS_ap, ↓Pz.wPar3_ap, ↓Pz.wDc_ap, ↓Pz.wDGet3_ap, ↓Pz.wListV_ap, ↓Pz.wSumV_ap, ↓Pz.wDIn_ap, ↓Pz.wTGet2_ap, ↓Pz.wTPut_ap, ↓Pz.wDAug_ap, ↓Pz.wFrzL_ap, ↓Pz.wItV_ap, ↓Pz.wItI_ap, ↓Pz.wItK_ap, ↓Pz.wDisp1_ap, ↓Pz.wBorD_ap, ↓Pz.wDNewT_ap, ↓Pz.wCallFD_ap, ↓Pz.wDNew_ap, ↓Pz.wItC_ap, ↓Pz.wCallXE_ap, Pz.setAll, ↓Pz.wClose_ap, ↓Pz.wSetIxO_ap, ↓Pz.oIxS_ap, ↓Pz.wRaise3_ap, ↓Pz.oMulT_ap, Pz.dkX, Pz.unKD_kdD, Option.isSome_some, ↓Pz.wOrX_apS, ↓Pz.wAndX_apS, ↓Pz.orP_str, Pz.orP_some, Pz.orP_none, ↓oTGet, ↓oLtS, ↓oLtT, ↓fListKy, ↓fSortKy, ↓fLenD_o, ↓Pz.aFD, Pz.unD_K, Pz.unD_T, Pz.kyS_t, Pz.keysL_nil, Pz.keysL_ci, Pz.keysL_cs, ↓Pz.dtAt_o, Pz.dtAt_L, ↓Pz.dkAny_o, Pz.dkAny_D, Pz.dkAny_L, ↓Pz.dvAt_o, Pz.dvAt_D, Pz.dvAt_L, Pz.dvAt_T, ↓Pz.dkyS_o, Pz.dkyS_D, Pz.dkyS_L, Pz.dkyS_T, ↓Pz.dinS_o, Pz.dinS_D, Pz.dinS_L, Pz.dinS_T, Pz.lkP_K, Pz.lkP_T, ↓ret1_dT, cl_dt, Pz.lkOf_K, Pz.lkOf_T, Pz.xor_f, Pz.xor_t, Pz.hasD_int, Option.bind, Option.bind_some, List.set, ↓seq_mk, ↓wTrim_mk, trimS, List.take_succ_cons, List.take_zero, Nat.reduceLT, ↓nx_mk, ↓set_mk, ↓if_mk, nthS, ↓oEq, ↓oNe, vw, ↓oAdd, ↓oSub, ↓oIadd, ↓oDGet, keyOf_str, keyOf_int, keyS_str, keyS_int, ↓dkAt_o, valE_cells, valE_at, valE_left, putE_at, putE_left, mergeE, mergeD1, kvD1, keyD_s, keyD_i, ret1_dE, cl_dk, ↓fIsi, ↓fDivmod, ↓fStr, Pz.okT_int, Pz.is_int_none, Pz.is_int_bool, Pz.is_int_int, Pz.is_int_str, Pz.is_int_list, Pz.is_int_tuple, Pz.is_int_dict, Pz.okT_bool, Pz.is_bool_none, Pz.is_bool_bool, Pz.is_bool_int, Pz.is_bool_str, Pz.is_bool_list, Pz.is_bool_tuple, Pz.is_bool_dict, Pz.okT_str, Pz.is_str_none, Pz.is_str_bool, Pz.is_str_int, Pz.is_str_str, Pz.is_str_list, Pz.is_str_tuple, Pz.is_str_dict, Pz.okT_tuple, Pz.is_tuple_none, Pz.is_tuple_bool, Pz.is_tuple_int, Pz.is_tuple_str, Pz.is_tuple_list, Pz.is_tuple_tuple, Pz.is_tuple_dict, Pz.okT_list, Pz.is_list_none, Pz.is_list_bool, Pz.is_list_int, Pz.is_list_str, Pz.is_list_list, Pz.is_list_tuple, Pz.is_list_dict, Pz.okT_dict, Pz.is_dict_none, Pz.is_dict_bool, Pz.is_dict_int, Pz.is_dict_str, Pz.is_dict_list, Pz.is_dict_tuple, Pz.is_dict_dict, ↓oFdiv, ↓oMod, ↓oMul, ↓oPow, ↓oBool, ↓oII, ↓oIsN, ↓oNotN, ↓oIn, ↓oInX, ↓oInQ, ↓oInT, ↓oIsB, ↓oIsBN, ↓oNotB, noneS, ↓ret_mk, ↓retN_mk, ↓bk_mk, ↓ct_mk, ↓expr_mk, ↓for_mk, truD, ↓oIxE, ↓mPopAt, ↓mIndex, ↓mInsert, ↓fIntS, ↓fStrN, ↓Pz.wJs_cons, ↓Pz.wJs_nil, at0, at1, at2, at3, ix10, ix20, ix21, ix30, ix31, ix32, Pz.len1, Pz.len2, Pz.len3, List.length_nil, List.length_cons, sh_int, sh_bl, sh_non, Int.reduceEq, reduceCtorEq, decide_true, decide_false, sh_nil, eqv_nn, eqv_nilL, List.isEmpty_map, sh_lit, List.flatten_replicate_singleton, List.length_replicate, eqv_int, Nat.zero_le, szL, Nat.reduceLeDiff, Nat.reduceAdd, ↓ret1_d, ↓ret1_o0, ↓ret1_o1, ↓ret1_o2, ↓ret0_o0, ↓ret_d, cl_lst, true_and, and_true, decide_eq_true_eq, ↓oSl, ↓oSlO, ↓fLen, ↓fAbs, ↓fInt, ↓fMaxE, ↓fMinE, ↓fSumE, ↓fAll, ↓fAny, ↓fList, ↓fListO, ↓fListE, ↓fListEO, ↓fTuple, ↓fSortedE, ↓fSortedS, ↓fSortedG, ↓fRep, ↓fRepX, ↓fRepZ, ↓fRepW, ↓fBool, vwJ_l, vwJ_t, vwS_l, vwS_t, vwB, dsOf, tyD, ↓mAppend, ↓mExtend, ↓mPop, ↓mReverse, ↓mSplit, ↓mSplitO, ↓mStrip, ↓mLstrip, ↓mRstrip, ↓mStr2, ↓mPart, ↓mJoinE, frzS, frzX, ↓excOf_o, ↓oDGetX, List.map_cons, List.map_nil, List.getElem?_cons_zero, List.getElem?_cons_succ, List.cons_append, List.nil_append, Bool.false_eq_true, Bool.true_eq_false, ↓reduceIte, p10_3, p10_6, p10_7, p10_9, p10_12, Option.map, ↓aQ, ↓aQO, ↓aFO, borS, atomD, ↓aXO, ↓oAddO, ↓oMulO, Option.some.injEq, exists_eq_left', exists_and_left, datO, datQ_d, ↓mCount, ↓mCountS, Bool.not_true, Bool.not_false, ↓F_column, ↓F_moved, ↓F_moves, ↓F_shortest_conversion, ↓F__law_draw, ↓F__law_size, ↓F__law_any, ↓F__law_column, ↓F__law_state, ↓F__law_moves, ↓F__law_layers, ↓F__law_told, ↓F__law_right, g_kwe_shortest_conversion_3_limit]
      refine ⟨hp, ?_⟩
      refine ite_all ⟨cpow (by omega) (by omega) (by omega) (by omega), ?_⟩ ?_
      · by_cases hg : (10 : Int) ^ Int.toNat 18 ≤ (if v < 0 then -v else v)
        · rw [if_pos hg]
          refine ⟨cpow (by omega) (by omega) (by omega) (by omega), .inl (small (by omega) (by omega)), cdw h6 h7, h6, q' _ _ (Int.ediv_nonneg ?_ (by omega)) (.inr rfl) _⟩
          generalize (10 : Int) ^ Int.toNat 18 = U at *
          split <;> rename_i hv <;> simp only [hv, if_true, if_false] at hg ⊢ <;> omega
        · rw [if_neg hg]
          clear e hp
          have f1 := Int.emod_nonneg (v) (by omega : (2147483579 : Int) ≠ 0)
          have f2 := Int.emod_lt_of_pos (v) (by omega : (0 : Int) < 2147483579)
          generalize (v) % 2147483579 = C at *
          repeat (first | refine And.intro (by omega) ?_ | refine And.intro (.inl (small (by omega) (by omega))) ?_ | refine And.intro (.inr (small (by omega) (by omega))) ?_ | refine And.intro (cpow (by omega) (by omega) (by omega) (by omega)) ?_ | refine And.intro (cdw (by omega) (by omega)) ?_)
          generalize hM : (C + 81001 * i + 67) ^ Int.toNat 5 % 2147483647 = M
          have g1 : 0 ≤ M := by rw [← hM]; exact Int.emod_nonneg _ (by omega)
          have g2 : M < 2147483647 := by rw [← hM]; exact Int.emod_lt_of_pos _ (by omega)
          have g3 : 0 ≤ M * (i + 65537) := Int.mul_nonneg g1 (by omega)
          have g4 : M * (i + 65537) ≤ 2147483647 * 1065537 := Int.mul_le_mul (by omega) (by omega) (by omega) (by omega)
          repeat (first | refine And.intro (by omega) ?_ | refine And.intro (.inl (small (by omega) (by omega))) ?_ | refine And.intro (.inr (small (by omega) (by omega))) ?_ | refine And.intro (cpow (by omega) (by omega) (by omega) (by omega)) ?_ | refine And.intro (cdw (by omega) (by omega)) ?_)
          exact q' _ _ h4 (.inr rfl) _
      · clear e hp
        have f1 := Int.emod_nonneg (v) (by omega : (2147483579 : Int) ≠ 0)
        have f2 := Int.emod_lt_of_pos (v) (by omega : (0 : Int) < 2147483579)
        generalize (v) % 2147483579 = C at *
        repeat (first | refine And.intro (by omega) ?_ | refine And.intro (.inl (small (by omega) (by omega))) ?_ | refine And.intro (.inr (small (by omega) (by omega))) ?_ | refine And.intro (cpow (by omega) (by omega) (by omega) (by omega)) ?_ | refine And.intro (cdw (by omega) (by omega)) ?_)
        generalize hM : (C + 81001 * i + 67) ^ Int.toNat 5 % 2147483647 = M
        have g1 : 0 ≤ M := by rw [← hM]; exact Int.emod_nonneg _ (by omega)
        have g2 : M < 2147483647 := by rw [← hM]; exact Int.emod_lt_of_pos _ (by omega)
        have g3 : 0 ≤ M * (i + 65537) := Int.mul_nonneg g1 (by omega)
        have g4 : M * (i + 65537) ≤ 2147483647 * 1065537 := Int.mul_le_mul (by omega) (by omega) (by omega) (by omega)
        repeat (first | refine And.intro (by omega) ?_ | refine And.intro (.inl (small (by omega) (by omega))) ?_ | refine And.intro (.inr (small (by omega) (by omega))) ?_ | refine And.intro (cpow (by omega) (by omega) (by omega) (by omega)) ?_ | refine And.intro (cdw (by omega) (by omega)) ?_)
        exact q' _ _ h4 (.inr rfl) _
theorem ok__law_column (T : Tx K mg base f_column f__law_pen f__law_draw f__law_column f__law_told f_moved f__law_size f__law_moves f_moves f__law_any f__law_layers f_next_layer f__law_state f_shortest_conversion f__law_right f_law fd_column fd__law_pen fd__law_draw fd__law_column fd__law_told fd_moved fd__law_size fd__law_moves fd_moves fd__law_any fd__law_layers fd_next_layer fd__law_state fd_shortest_conversion fd__law_right fd_law e__law_right) : FnD P w K mg base CX0 1 f__law_column fd__law_column ["_law_lead", "_law_wide"] sp__law_column := by
  refine FnD.of0 T.d__law_column.F sc__law_column 0 _ (fun cdv A outer s H E Z0 hA hr hz => (dss_cons (ds_set 2 sc__law_column.nd (de_bm md_split PySem.F.plainAttrs_str PySem.F.slot_str_split PySem.F.type_str_split mt_split (de_v 0 (pv 0)) (da_cons de_str da_nil)))
      (dss_one (ds_ret (de_op d2_add op_addR (de_op d2_mul op_mulR (de_v 1 (pv 1)) (de_callB cd_sumE (cr_sumE rfl) rfl T.b_sum (by decide +kernel) (da_cons (de_lc rfl sc__law_column.nd (di_e (de_slice (de_v 2 (pv 2)) dpo_none (dpo_some (de_neg de_int)))) (blkOk_by (own := [("_law_group", 3)]) (N := N__law_column) (sc := defScope s__law_column) (by decide +kernel)) (by decide) (fun _ _ _ _ _ => (dg_name 3 sc__law_column.nd)) (fun _ _ _ _ _ => dpt_nil) (fun _ _ _ _ _ => (de_op d2_add op_addR de_int (de_op d2_fdiv op_fdivW (de_callB cd_len call_len rfl T.b_len (by decide +kernel) (da_cons (de_v 3 (pv 3)) da_nil)) (de_v 1 (pv 1)))))) da_nil))) (de_callB cd_len call_len rfl T.b_len (by decide +kernel) (da_cons (de_ixE (de_v 2 (pv 2)) (de_neg de_int)) da_nil))))))) ?_
  refine ho__law_column fun z w Qd ⟨h0, h1, h2⟩ q => ?_
  try dsimp only at *
  rw [st__law_column]
  obtain ⟨xs, y, e, e1, e2⟩ := split_parts z
  have l1 := rt_len (tl z)
  rw [← e1, List.length_map, ← Pz.len_tl] at l1
  nofun
  rw [e, List.map_append, List.map_cons, List.map_nil, cut_last]
  refine ⟨by rw [len_tab1]; decide, by omega, ?_⟩
  refine lc_map (fun d => match d with | .str x => .int (1 + (x.length : Int) / w) | d => d) (by rw [List.length_map]; omega) (fun d m R hR => ?_) ?_
  · obtain ⟨x, mx, rfl⟩ := List.mem_map.mp m
    have hx := mem_sum (List.mem_map_of_mem (f := fun x : Str => x.length) mx)
    subst_vars
    exact ⟨by omega, cdw h1 (by omega), hR⟩
  · have e3 : (List.map (fun d => match d with | PyData.str x => PyData.int (1 + (x.length : Int) / w) | d => d) (List.map PyData.str xs)) = (xs.map fun x => 1 + (x.length : Int) / w).map .int := by
      rw [List.map_map, List.map_map]; rfl
    obtain ⟨W, rfl⟩ := Int.eq_ofNat_of_zero_le (by omega : 0 ≤ w)
    have e4 : (xs.map fun x => 1 + (x.length : Int) / (W : Int)).sum = ((runsL (tl z)).length + divs W (runsL (tl z)) : Nat) := by
      rw [← e1]
      clear e1 e e3 l1 q
      induction xs with
      | nil => rfl
      | cons x xs ih =>
        rw [List.map_cons, List.sum_cons, ih, List.map_cons, List.length_cons, divs, divs, List.map_cons, List.sum_cons]
        push_cast
        omega
    have hd := divs_le W (runsL (tl z))
    have hs : (runsL (tl z)).length + divs W (runsL (tl z)) ≤ z.length := by rw [← e1, List.length_map]; rw [← e1] at hd; omega
    refine ⟨_, by rw [e3]; exact asInts_map _, .inr (by rw [e4]; exact small (by omega) (by omega)), _, at_last, ?_⟩
    rw [e4]
    nofun
    unfold colZ at q
    rw [colR_0 (by omega)] at q
    refine ⟨by omega, ?_⟩
    rw [e2]
    rw [Int.natCast_mul] at q
    exact q
theorem ok__law_told (T : Tx K mg base f_column f__law_pen f__law_draw f__law_column f__law_told f_moved f__law_size f__law_moves f_moves f__law_any f__law_layers f_next_layer f__law_state f_shortest_conversion f__law_right f_law fd_column fd__law_pen fd__law_draw fd__law_column fd__law_told fd_moved fd__law_size fd__law_moves fd_moves fd__law_any fd__law_layers fd_next_layer fd__law_state fd_shortest_conversion fd__law_right fd_law e__law_right) {k : Nat} : HeardD P w K mg base k f__law_told "_law_told" s__law_told N__law_told "_law_ask" F__law_told := by
  refine FnD.ofH (fun cdv A outer s H E Z0 f W0 H0 Ar hA hr hz mono act => ⟨_, (dss_cons (ds_set 1 sc__law_told.nd de_non)
      (dss_cons (ds_set 2 sc__law_told.nd de_non)
      (dss_cons (ds_try (i := 3) (j := 1) T.xr L2.takes0 sc__law_told.nd (nt_tup (.cons List.mem_cons_self (.cons (List.mem_cons_of_mem _ List.mem_cons_self) .nil))) (fun W pn xe tk => (dss_one (ds_set 2 sc__law_told.nd (act.run _ _ _ _ _ tk)))) (fun a oe pn => pss_one (ps_set (i := 1) sc__law_told.nd rfl (Or.inl rfl) (pv 3))))
      (dss_cons (ds_if (dt_cmp d2_isN op_isN (de_v 1 (pv 1)) de_non (nomark _)) (dss_one (ds_ret (de_v 2 (pv 2)))) dss_nil)
      (dss_cons (ds_if (DWs.dt (dw_or (dt_tru (de_isE1 T.xr (de_v 1 (pv 1)) List.mem_cons_self rfl T.b_isinstance (by decide +kernel))) (dw_or1 (dt_not (dt_tru (de_isE1 T.xr (de_v 1 (pv 1)) (List.mem_cons_of_mem _ (List.mem_cons_of_mem _ List.mem_cons_self)) rfl T.b_isinstance (by decide +kernel))))))) (dss_one (ds_ret de_str)) dss_nil)
      (dss_one (ds_ret (de_tup (da_cons de_str (da_cons (de_xf "count" T.xr List.mem_cons_self (de_v 1 (pv 1))) da_nil)))))))))), fun Qd q => ?_⟩)
  rw [st__law_told]
  nofun
  refine mono _ _ _ _ (fun c fs ⟨hr, hk⟩ => ?_) (fun d hk => ?_) q
  · exact hk
  · obtain ⟨rfl, d, hd, hk⟩ := (show _ ∧ _ from ⟨hr, hk⟩)
    simp -implicitDefEqProofs only [List.any_cons, List.any_nil, Bool.or_false, Bool.false_or, Bool.or_true, Bool.true_or, List.countP_cons, List.countP_nil, eqv_bb, sb_TooMany_TooLong, sb_TooMany_TooMany, sb_TooMany_OverflowError, ↓Pz.wC_ap, ↓Pz.wVar_ap, ↓Pz.wOp_ap, ↓Pz.wTest_ap, ↓Pz.wNil_ap, ↓Pz.wCons_ap, ↓Pz.wCall_ap, ↓Pz.wCallW_ap, ↓Pz.wApp_ap, ↓Pz.wLst_ap, ↓Pz.wTup_ap, ↓Pz.wLstO_ap, ↓Pz.wNoPart_ap, ↓Pz.wPart_ap, ↓Pz.wSl_ap, ↓Pz.wAnd_ap, ↓Pz.wOr_ap, ↓Pz.wNot_ap, ↓Pz.wAndV_ap, ↓Pz.wOrV_ap, ↓Pz.wNotV_ap, ↓Pz.wIfE_ap, ↓Pz.wTru_ap, ↓Pz.wChain_ap, ↓Pz.wNeg_ap, ↓Pz.wAug_ap, ↓Pz.gNm_ap, ↓Pz.gNl_ap, ↓Pz.gCn_ap, ↓Pz.gTp_ap, ↓Pz.wAsg_ap, ↓Pz.wItE_ap, ↓Pz.wRng1_ap, ↓Pz.wRng2_ap, ↓Pz.wYes_ap, ↓Pz.wLc_ap, ↓Pz.wLcO_ap, ↓Pz.wBM_ap, ↓Pz.wSetIx_ap, ↓Pz.wFrz_ap, ↓Pz.wCallF_ap, ↓Pz.wCallQ_ap, ↓Pz.wCallWF_ap, ↓Pz.wRev_ap, ↓Pz.wRg1_ap, ↓Pz.wRg2_ap, ↓Pz.wListRg_ap, ↓Pz.wRng3_ap, ↓Pz.wEnum_ap, ↓Pz.wZip_ap, ↓Pz.wCallQO_ap, ↓Pz.wDPut_ap, ↓Pz.wPNil_ap, ↓Pz.wPCons_ap, ↓Pz.wDisp_ap, ↓Pz.wDNew_ap, ↓Pz.wDNil_ap, ↓Pz.wEnumX_ap, ↓Pz.wCallE_ap, ↓Pz.wSlO_ap, ↓Pz.wEnumY_ap, ↓Pz.wDGet2_ap, ↓Pz.wMaxDf_ap, ↓Pz.wCallFO_ap, ↓Pz.wRevY_ap, ↓Pz.wFrzX_ap, ↓Pz.wSwp_ap, ↓Pz.wCallX_ap, ↓Pz.wCallXO_ap, ↓Pz.wCallWX_ap, ↓Pz.wRaise1_ap, ↓Pz.wRaise0_ap, ↓Pz.wTry_ap, ↓Pz.wIsE_ap, ↓Pz.wXf_ap, ↓Pz.wDispD_ap, ↓Pz.wSortLen_ap, ↓Pz.wGGet_ap, ↓Pz.wMinDf_ap, ↓Pz.wPar_ap, ↓Pz.wLam_ap, ↓Pz.wAct_ap, ↓Pz.wRep_ap, ↓Pz.wZipM_ap, ↓Pz.wLenSet_ap, ↓Pz.wBor_ap, ↓Pz.gTpL_ap, ↓Pz.wTupRg_ap, ↓Pz.wRevS_ap, ↓Pz.wFmt_ap, ↓Pz.wJoined_ap, ↓Pz.wAsgS_ap, ↓Pz.wPar3_ap, ↓Pz.wDc_ap, ↓Pz.wDGet3_ap, ↓Pz.wListV_ap, ↓Pz.wSumV_ap, ↓Pz.wDIn_ap, ↓Pz.wTGet2_ap, ↓Pz.wTPut_ap, ↓Pz.wDAug_ap, ↓Pz.wFrzL_ap, ↓Pz.wItV_ap, ↓Pz.wItI_ap, ↓Pz.wItK_ap, ↓Pz.wDisp1_ap, ↓Pz.wBorD_ap, ↓Pz.wDNewT_ap, ↓Pz.wCallFD_ap, ↓Pz.wDNew_ap, ↓Pz.wItC_ap, ↓Pz.wCallXE_ap, Pz.setAll, ↓Pz.wClose_ap, ↓Pz.wSetIxO_ap, ↓Pz.oIxS_ap, ↓Pz.wRaise3_ap, ↓Pz.oMulT_ap, Pz.dkX, Pz.unKD_kdD, Option.isSome_some, ↓Pz.wOrX_apS, ↓Pz.wAndX_apS, ↓Pz.orP_str, Pz.orP_some, Pz.orP_none, ↓oTGet, ↓oLtS, ↓oLtT, ↓fListKy, ↓fSortKy, ↓fLenD_o, ↓Pz.aFD, Pz.unD_K, Pz.unD_T, Pz.kyS_t, Pz.keysL_nil, Pz.keysL_ci, Pz.keysL_cs, ↓Pz.dtAt_o, Pz.dtAt_L, ↓Pz.dkAny_o, Pz.dkAny_D, Pz.dkAny_L, ↓Pz.dvAt_o, Pz.dvAt_D, Pz.dvAt_L, Pz.dvAt_T, ↓Pz.dkyS_o, Pz.dkyS_D, Pz.dkyS_L, Pz.dkyS_T, ↓Pz.dinS_o, Pz.dinS_D, Pz.dinS_L, Pz.dinS_T, Pz.lkP_K, Pz.lkP_T, ↓ret1_dT, cl_dt, Pz.lkOf_K, Pz.lkOf_T, Pz.xor_f, Pz.xor_t, Pz.hasD_int, Option.bind, Option.bind_some, List.set, ↓seq_mk, ↓wTrim_mk, trimS, List.take_succ_cons, List.take_zero, Nat.reduceLT, ↓nx_mk, ↓set_mk, ↓if_mk, nthS, ↓oEq, ↓oNe, vw, ↓oAdd, ↓oSub, ↓oIadd, ↓oDGet, keyOf_str, keyOf_int, keyS_str, keyS_int, ↓dkAt_o, valE_cells, valE_at, valE_left, putE_at, putE_left, mergeE, mergeD1, kvD1, keyD_s, keyD_i, ret1_dE, cl_dk, ↓fIsi, ↓fDivmod, ↓fStr, Pz.okT_int, Pz.is_int_none, Pz.is_int_bool, Pz.is_int_int, Pz.is_int_str, Pz.is_int_list, Pz.is_int_tuple, Pz.is_int_dict, Pz.okT_bool, Pz.is_bool_none, Pz.is_bool_bool, Pz.is_bool_int, Pz.is_bool_str, Pz.is_bool_list, Pz.is_bool_tuple, Pz.is_bool_dict, Pz.okT_str, Pz.is_str_none, Pz.is_str_bool, Pz.is_str_int, Pz.is_str_str, Pz.is_str_list, Pz.is_str_tuple, Pz.is_str_dict, Pz.okT_tuple, Pz.is_tuple_none, Pz.is_tuple_bool, Pz.is_tuple_int, Pz.is_tuple_str, Pz.is_tuple_list, Pz.is_tuple_tuple, Pz.is_tuple_dict, Pz.okT_list, Pz.is_list_none, Pz.is_list_bool, Pz.is_list_int, Pz.is_list_str, Pz.is_list_list, Pz.is_list_tuple, Pz.is_list_dict, Pz.okT_dict, Pz.is_dict_none, Pz.is_dict_bool, Pz.is_dict_int, Pz.is_dict_str, Pz.is_dict_list, Pz.is_dict_tuple, Pz.is_dict_dict, ↓oFdiv, ↓oMod, ↓oMul, ↓oPow, ↓oBool, ↓oII, ↓oIsN, ↓oNotN, ↓oIn, ↓oInX, ↓oInQ, ↓oInT, ↓oIsB, ↓oIsBN, ↓oNotB, noneS, ↓ret_mk, ↓retN_mk, ↓bk_mk, ↓ct_mk, ↓expr_mk, ↓for_mk, truD, ↓oIxE, ↓mPopAt, ↓mIndex, ↓mInsert, ↓fIntS, ↓fStrN, ↓Pz.wJs_cons, ↓Pz.wJs_nil, at0, at1, at2, at3, ix10, ix20, ix21, ix30, ix31, ix32, Pz.len1, Pz.len2, Pz.len3, List.length_nil, List.length_cons, sh_int, sh_bl, sh_non, Int.reduceEq, reduceCtorEq, decide_true, decide_false, sh_nil, eqv_nn, eqv_nilL, List.isEmpty_map, sh_lit, List.flatten_replicate_singleton, List.length_replicate, eqv_int, Nat.zero_le, szL, Nat.reduceLeDiff, Nat.reduceAdd, ↓ret1_d, ↓ret1_o0, ↓ret1_o1, ↓ret1_o2, ↓ret0_o0, ↓ret_d, cl_lst, true_and, and_true, decide_eq_true_eq, ↓oSl, ↓oSlO, ↓fLen, ↓fAbs, ↓fInt, ↓fMaxE, ↓fMinE, ↓fSumE, ↓fAll, ↓fAny, ↓fList, ↓fListO, ↓fListE, ↓fListEO, ↓fTuple, ↓fSortedE, ↓fSortedS, ↓fSortedG, ↓fRep, ↓fRepX, ↓fRepZ, ↓fRepW, ↓fBool, vwJ_l, vwJ_t, vwS_l, vwS_t, vwB, dsOf, tyD, ↓mAppend, ↓mExtend, ↓mPop, ↓mReverse, ↓mSplit, ↓mSplitO, ↓mStrip, ↓mLstrip, ↓mRstrip, ↓mStr2, ↓mPart, ↓mJoinE, frzS, frzX, ↓excOf_o, ↓oDGetX, List.map_cons, List.map_nil, List.getElem?_cons_zero, List.getElem?_cons_succ, List.cons_append, List.nil_append, Bool.false_eq_true, Bool.true_eq_false, ↓reduceIte, p10_3, p10_6, p10_7, p10_9, p10_12, Option.map, ↓aQ, ↓aQO, ↓aFO, borS, atomD, ↓aXO, ↓oAddO, ↓oMulO, Option.some.injEq, exists_eq_left', exists_and_left, datO, datQ_d, ↓mCount, ↓mCountS, Bool.not_true, Bool.not_false, ↓F_column, ↓F_moved, ↓F_moves, ↓F_shortest_conversion, ↓F__law_draw, ↓F__law_size, ↓F__law_any, ↓F__law_column, ↓F__law_state, ↓F__law_moves, ↓F__law_layers, ↓F__law_told, ↓F__law_right, g_kwe_shortest_conversion_3_limit]
    repeat (first | refine And.intro (by decide +kernel) ?_ | rw [if_neg (by decide)] | rw [if_pos (by decide)])
    exact ⟨d, hd, hk⟩
theorem ok_moved (T : Tx K mg base f_column f__law_pen f__law_draw f__law_column f__law_told f_moved f__law_size f__law_moves f_moves f__law_any f__law_layers f_next_layer f__law_state f_shortest_conversion f__law_right f_law fd_column fd__law_pen fd__law_draw fd__law_column fd__law_told fd_moved fd__law_size fd__law_moves fd_moves fd__law_any fd__law_layers fd_next_layer fd__law_state fd_shortest_conversion fd__law_right fd_law e__law_right) : FnD P w K mg base CX0 2 f_moved fd_moved ["state", "word", "width", "limit"] sp_moved := by
  refine FnD.of0 T.d_moved.F sc_moved 0 _ (fun cdv A outer s H E Z0 hA hr hz => (dss_cons (ds_set 4 sc_moved.nd (de_lstO da_nil))
      (dss_cons (ds_for PassesOwn.never rfl (di_e (de_v 0 (pv 0))) (dg_name 5 sc_moved.nd) (dss_cons (ds_set 6 sc_moved.nd (de_callF fo_column (ok_column T) hA (hr.mono (by decide)) rfl rfl T.d_column.g T.d_column.F.kp T.d_column.b (da_cons (de_v 5 (pv 5)) (da_cons (de_v 2 (pv 2)) da_nil))))
      (dss_cons (ds_asg (de_if (dt_cmp d2_eq (op_eqD hr.units) (de_v 1 (pv 1)) de_str (nomark _)) (de_tup (da_cons de_int (da_cons (de_v 6 (pv 6)) da_nil))) (de_callB cd_divmod call_divmodW rfl T.b_divmod (by decide +kernel) (da_cons (de_v 6 (pv 6)) (da_cons (de_v 2 (pv 2)) da_nil)))) (dg_tup (n := 2) rfl (dgs_cons (dg_name 7 sc_moved.nd) (dgs_cons (dg_name 8 sc_moved.nd) dgs_nil))))
      (dss_cons (ds_if (dt_cmp d2_bool op_gt (de_op d2_add op_addR (de_v 7 (pv 7)) (de_v 8 (pv 8))) (de_v 3 (pv 3)) (nomark _)) (dss_one (ds_ret de_non)) dss_nil)
      (dss_one (ds_expr (de_bm md_append PySem.F.plainAttrs_list PySem.F.slot_list_append PySem.F.type_list_append mt_append (de_v 4 (pv 4)) (da_cons (de_op d2_add op_addR (de_op d2_mul op_mulR de_str (de_v 7 (pv 7))) (de_op d2_mul op_mulR de_str (de_v 8 (pv 8)))) da_nil))))))))
      (dss_one (ds_ret (de_callTy cd_tuple call_tuple_of rfl T.b_tuple (by decide +kernel) (da_cons (de_v 4 (pv 4)) da_nil))))))) ?_
  refine ho_moved fun s o w m Qd ⟨⟨S, hs, hl, hS⟩, ho, hw0, hw1, hm0, hm1⟩ q => ?_
  try dsimp only at *
  rw [st_moved]
  have q2 := q S hs
  clear q
  subst hs
  obtain ⟨w, rfl⟩ : ∃ k : Nat, w = k := ⟨w.toNat, by omega⟩
  obtain ⟨m, rfl⟩ : ∃ k : Nat, m = k := ⟨m.toNat, by omega⟩
  rw [Int.toNat_natCast, Int.toNat_natCast] at q2
  rw [seq_mk]
  subst_eqs
  obtain ⟨x, hx⟩ : ∃ x, x = decide (o = Str.ofString "expand") := ⟨_, rfl⟩
  rw [← hx] at q2
  rw [seq_mk]
  subst_eqs
  refine forL_ix (fun (ds : List PyData) (sl : Sls) (st : Sto) => ∃ (u v : Sta) (s_5 s_6 s_7 s_8 : Option Sl), sl = [some (.d (.tuple (S.map fun l => .str (SX.S l)))), some (.d (.str o)), some (.d (.int (w : Nat))), some (.d (.int (m : Nat))), some (.o 0), s_5, s_6, s_7, s_8] ∧ st = [.lst ((u.map (mv1 x w)).map fun l => .str (SX.S l))] ∧ ds = v.map (fun l => .str (SX.S l)) ∧ S = u ++ v ∧ ∀ l ∈ u, (tbX x w l).1 + (tbX x w l).2 ≤ m) ?_ ?_ _ _ _ ⟨[], S, _, _, _, _, rfl, rfl, rfl, rfl, fun l m => by cases m⟩
  · rintro sl st ⟨u, v, s_5, s_6, s_7, s_8, rfl, rfl, hd, hu, hf⟩
    obtain rfl : v = [] := by cases v with | nil => rfl | cons _ _ => cases hd
    rw [List.append_nil] at hu
    subst hu
    have hfit : fitS x w m S = true := List.all_eq_true.mpr fun l ml => decide_eq_true (hf l ml)
    nofun
    unfold mvS at q2
    rw [if_pos hfit] at q2
    exact q2
  · rintro R B d ds sl st ih ⟨u, v, s_5, s_6, s_7, s_8, rfl, rfl, hd, hu, hf⟩
    cases v with
    | nil => cases hd
    | cons l v =>
    rw [List.map_cons, List.cons.injEq] at hd
    obtain ⟨rfl, rfl⟩ := hd
    obtain ⟨l1, l2⟩ := hS l (by rw [hu]; exact List.mem_append_right _ List.mem_cons_self)
    have hc : colR (w : Int) (runsL (tl (SX.S l))) 0 + ((tailL (tl (SX.S l)) : Nat) : Int) = (pcN w l : Nat) := by
      rw [show tl (SX.S l) = l from tl_S l, colR_N (by omega)]
      rfl
    have hp : pcN w l ≤ 1000000 := pc_bd (by omega) (by omega) l2
    have hml : l ∈ S := by rw [hu]; exact List.mem_append_right _ List.mem_cons_self
    have hul : u.length ≤ 100 := by
      have := congrArg List.length hu
      rw [List.length_append] at this
      omega
    simp only [↓Pz.gNm_ap, List.set]
    rw [seq_mk]
    subst_eqs
    rw [hc]
    refine ⟨⟨by rw [tl_S]; exact l1, by rw [SX.S_len]; omega, by omega, by omega⟩, ?_⟩
    have hsn : ∀ (L : Sta) (a : List Nat), (L.map (mv1 x w)).map (fun l => PyData.str (SX.S l)) ++ [PyData.str (SX.S (mv1 x w a))] = ((L ++ [a]).map (mv1 x w)).map fun l => PyData.str (SX.S l) := fun L a => by rw [List.map_append, List.map_append]; rfl
    have hfin : ∀ (a b : Nat), tbX x w l = (a, b) → (if (m : Int) < (a : Int) + (b : Int) then Qd (.d .none) [] else -2 ^ 63 ≤ (a : Int) ∧ (a : Int) < 2 ^ 63 ∧ (Str.ofString "\t").length * (a : Int).toNat ≤ 16777216 ∧ -2 ^ 63 ≤ (b : Int) ∧ (b : Int) < 2 ^ 63 ∧ (Str.ofString " ").length * (b : Int).toNat ≤ 16777216 ∧ (Txt.mul (Str.ofString "\t") (a : Int)).length + (Txt.mul (Str.ofString " ") (b : Int)).length ≤ 16777216 ∧ ((u.map (mv1 x w)).map fun l => PyData.str (SX.S l)).length < 16777216 ∧ R [some (.d (.tuple (S.map fun l => .str (SX.S l)))), some (.d (.str o)), some (.d (.int (w : Nat))), some (.d (.int (m : Nat))), some (.o 0), some (.d (.str (SX.S l))), some (.d (.int (pcN w l : Nat))), some (.d (.int (a : Nat))), some (.d (.int (b : Nat)))] [.lst ((u.map (mv1 x w)).map (fun l => PyData.str (SX.S l)) ++ [PyData.str (Txt.mul (Str.ofString "\t") (a : Int) ++ Txt.mul (Str.ofString " ") (b : Int))])]) := fun a b e => by
      split
      · rename_i hlt
        rw [not_fit (x := x) (w := w) hml (by rw [e]; show m < a + b; omega)] at q2
        exact q2
      · rename_i hge
        have hab : a + b ≤ m := by omega
        have em : SX.S (List.replicate a 9 ++ List.replicate b 32) = SX.S (mv1 x w l) := by unfold mv1; rw [e]
        rw [mul_ts, em, hsn, len_tab1, len_sp1, Int.toNat_natCast, Int.toNat_natCast, Pz.len_tl, Pz.len_tl, tl_mul1 tl_tab1, tl_mul1 tl_sp1, List.length_replicate, List.length_replicate, List.length_map, List.length_map, Int.toNat_natCast, Int.toNat_natCast]
        refine ⟨by omega, by omega, by omega, by omega, by omega, by omega, by omega, by omega, ih _ _ ⟨u ++ [l], v, _, _, _, _, rfl, rfl, rfl, (by rw [hu, List.append_assoc]; rfl), fun y my => ?_⟩⟩
        rcases List.mem_append.mp my with my | my
        · exact hf y my
        · rw [List.mem_singleton.mp my, e]; exact hab
    have ed := Int.natCast_ediv (pcN w l) w
    have em := Int.natCast_emod (pcN w l) w
    rcases ho with rfl | rfl
    · have ex : x = true := by rw [hx]; simp
      nofun
      rw [eqv_self_str, if_pos rfl]
      exact hfin 0 (pcN w l) (by rw [ex]; rfl)
    · have ne : PyData.eqv (.str (Str.ofString "collapse")) (.str (Str.ofString "expand")) = false := by decide +kernel
      have ex : x = false := by
        rw [hx]
        have := ne
        rw [eqv_str] at this
        exact this
      nofun
      rw [ne, if_neg (by decide), ← ed, ← em]
      refine ⟨?_, hfin (pcN w l / w) (pcN w l % w) (by rw [ex]; rfl)⟩
      exact cdp (by omega) (by omega) (by omega)
theorem ok__law_size (T : Tx K mg base f_column f__law_pen f__law_draw f__law_column f__law_told f_moved f__law_size f__law_moves f_moves f__law_any f__law_layers f_next_layer f__law_state f_shortest_conversion f__law_right f_law fd_column fd__law_pen fd__law_draw fd__law_column fd__law_told fd_moved fd__law_size fd__law_moves fd_moves fd__law_any fd__law_layers fd_next_layer fd__law_state fd_shortest_conversion fd__law_right fd_law e__law_right) : FnD P w K mg base CX0 2 f__law_size fd__law_size ["_law_pen_here", "_law_most"] sp__law_size := by
  refine FnD.of0 T.d__law_size.F sc__law_size 1 _ (fun cdv A outer s H E Z0 hA hr hz => (dss_cons (ds_set 2 sc__law_size.nd (de_callQ fo__law_draw (ok__law_draw T) hA (hr.mono (by decide)) rfl rfl T.d__law_draw.g T.d__law_draw.F.kp T.d__law_draw.b (da_cons (de_v 0 (pv 0)) (da_cons (de_op d2_add op_addR (de_v 1 (pv 1)) de_int) da_nil))))
      (dss_one (ds_ret (de_callB cd_minE (cr_minE rfl) rfl T.b_min (by decide +kernel) (da_cons (de_v 1 (pv 1)) (da_cons (de_ixE (de_lst (da_cons de_int (da_cons de_int (da_cons de_int (da_cons de_int (da_cons de_int (da_cons de_int (da_cons (de_v 1 (pv 1)) (da_cons (de_v 2 (pv 2)) da_nil))))))))) (de_callQ fo__law_draw (ok__law_draw T) hA (hr.mono (by decide)) rfl rfl T.d__law_draw.g T.d__law_draw.F.kp T.d__law_draw.b (da_cons (de_v 0 (pv 0)) (da_cons de_int da_nil)))) da_nil))))))) ?_
  refine ho__law_size fun m c n Qd p hn ⟨h0, h1⟩ q => ?_
  try dsimp only at *
  rw [st__law_size]
  rw [seq_mk]
  subst_eqs
  refine ⟨_, by assumption, by omega, ⟨by omega, by omega⟩, fun r1 a1 b1 c1 p1 => ?_⟩
  refine ⟨_, by assumption, by omega, ⟨by omega, by omega⟩, fun r2 a2 b2 c2 p2 => ?_⟩
  refine pickI (P := fun x => 0 ≤ x) (by repeat (first | exact Ints.nil | refine Ints.cons (by first | omega | (constructor <;> omega)) ?_)) a2 (by simpa using b2) fun x hx => ?_
  nofun
  exact ⟨p2.cl, q _ (by omega) (by omega) _ (p2.mono (by omega))⟩
theorem ok__law_moves (T : Tx K mg base f_column f__law_pen f__law_draw f__law_column f__law_told f_moved f__law_size f__law_moves f_moves f__law_any f__law_layers f_next_layer f__law_state f_shortest_conversion f__law_right f_law fd_column fd__law_pen fd__law_draw fd__law_column fd__law_told fd_moved fd__law_size fd__law_moves fd_moves fd__law_any fd__law_layers fd_next_layer fd__law_state fd_shortest_conversion fd__law_right fd_law e__law_right) : FnD P w K mg base CX0 2 f__law_moves fd__law_moves ["_law_state_here", "_law_wides", "_law_most"] sp__law_moves := by
  refine FnD.of0 T.d__law_moves.F sc__law_moves 0 _ (fun cdv A outer s H E Z0 hA hr hz => (dss_cons (ds_set 3 sc__law_moves.nd (de_lstO da_nil))
      (dss_cons (ds_for PassesOwn.never rfl (di_e (de_v 1 (pv 1))) (dg_name 4 sc__law_moves.nd) (dss_cons (ds_setLc 5 rfl sc__law_moves.nd (di_e (de_v 0 (pv 0))) (blkOk_by (own := [("_law_lead", 7)]) (N := N__law_moves) (sc := defScope s__law_moves) (by decide +kernel)) (by decide) (fun _ _ _ _ _ => (dg_name 7 sc__law_moves.nd)) (fun _ _ _ _ _ => dpt_nil) (fun _ _ _ _ _ => (de_callF fo__law_column (ok__law_column T) hA (hr.mono (by decide)) rfl rfl T.d__law_column.g T.d__law_column.F.kp T.d__law_column.b (da_cons (de_v 7 (pv 7)) (da_cons (de_v 4 (pv 4)) da_nil)))) (sw_true rfl rfl rfl (by decide +kernel)))
      (dss_cons (ds_if (dt_cmp d2_bool op_le (de_callB cd_maxE (cr_maxE rfl) rfl T.b_max (by decide +kernel) (da_cons (de_v 5 (pv 5)) da_nil)) (de_v 2 (pv 2)) (nomark _)) (dss_one (ds_expr (de_bm md_append PySem.F.plainAttrs_list PySem.F.slot_list_append PySem.F.type_list_append mt_append (de_v 3 (pv 3)) (da_cons (de_tup (da_cons (de_tup (da_cons de_str (da_cons (de_v 4 (pv 4)) da_nil))) (da_cons (de_callTy cd_tuple call_tuple_of rfl T.b_tuple (by decide +kernel) (da_cons (de_lc rfl sc__law_moves.nd (di_e (de_v 5 (pv 5))) (blkOk_by (own := [("_law_place", 8)]) (N := N__law_moves) (sc := defScope s__law_moves) (by decide +kernel)) (by decide) (fun _ _ _ _ _ => (dg_name 8 sc__law_moves.nd)) (fun _ _ _ _ _ => dpt_nil) (fun _ _ _ _ _ => (de_op d2_mul op_mulR de_str (de_v 8 (pv 8))))) da_nil)) da_nil))) da_nil)))) dss_nil)
      (dss_one (ds_if (dt_cmp d2_bool op_le (de_callB cd_maxE (cr_maxE rfl) rfl T.b_max (by decide +kernel) (da_cons (de_lc rfl sc__law_moves.nd (di_e (de_v 5 (pv 5))) (blkOk_by (own := [("_law_place", 8)]) (N := N__law_moves) (sc := defScope s__law_moves) (by decide +kernel)) (by decide) (fun _ _ _ _ _ => (dg_name 8 sc__law_moves.nd)) (fun _ _ _ _ _ => dpt_nil) (fun _ _ _ _ _ => (de_op d2_add op_addR (de_op d2_fdiv op_fdivW (de_v 8 (pv 8)) (de_v 4 (pv 4))) (de_op d2_mod op_mod (de_v 8 (pv 8)) (de_v 4 (pv 4)))))) da_nil)) (de_v 2 (pv 2)) (nomark _)) (dss_cons (ds_set 6 sc__law_moves.nd (de_callTy cd_tuple call_tuple_of rfl T.b_tuple (by decide +kernel) (da_cons (de_lc rfl sc__law_moves.nd (di_e (de_v 5 (pv 5))) (blkOk_by (own := [("_law_place", 8)]) (N := N__law_moves) (sc := defScope s__law_moves) (by decide +kernel)) (by decide) (fun _ _ _ _ _ => (dg_name 8 sc__law_moves.nd)) (fun _ _ _ _ _ => dpt_nil) (fun _ _ _ _ _ => (de_op d2_add op_addR (de_op d2_mul op_mulR de_str (de_op d2_fdiv op_fdivW (de_v 8 (pv 8)) (de_v 4 (pv 4)))) (de_op d2_mul op_mulR de_str (de_op d2_mod op_mod (de_v 8 (pv 8)) (de_v 4 (pv 4))))))) da_nil)))
      (dss_one (ds_expr (de_bm md_append PySem.F.plainAttrs_list PySem.F.slot_list_append PySem.F.type_list_append mt_append (de_v 3 (pv 3)) (da_cons (de_tup (da_cons (de_tup (da_cons de_str (da_cons (de_v 4 (pv 4)) da_nil))) (da_cons (de_v 6 (pv 6)) da_nil))) da_nil))))) dss_nil)))))
      (dss_frz 0 3 hz (dss_one (ds_ret (de_v 3 (pv 3)))))))) ?_
  refine ho__law_moves fun s ws m Qd ⟨⟨S, hs, hl0, hl, hS⟩, hw, hwl, hm0, hm1⟩ q => ?_
  try dsimp only at *
  rw [st__law_moves]
  have q2 := q S hs
  clear q
  subst hs
  rw [seq_mk]
  subst_eqs
  refine forL_ix (fun (ds : List PyData) (sl : Sls) (st : Sto) => ∃ (u v : List Nat) (s_4 s_5 s_6 s_7 s_8 : Option Sl), sl = [some (.d (.tuple (S.map fun l => .str (SX.S l)))), some (.d (.list ws)), some (.d (.int m)), some (.o 0), s_4, s_5, s_6, s_7, s_8] ∧ st = [.lst (mvD (mvL u m.toNat S))] ∧ ds = v.map (fun n : Nat => PyData.int (n : Int)) ∧ ws.map toN = u ++ v) ?_ ?_ _ _ _ ⟨[], ws.map toN, _, _, _, _, _, rfl, rfl, ints_nat hw, rfl⟩
  · rintro sl st ⟨u, v, s_4, s_5, s_6, s_7, s_8, rfl, rfl, hd, hu⟩
    obtain rfl : v = [] := by cases v with | nil => rfl | cons _ _ => cases hd
    rw [List.append_nil] at hu
    nofun
    refine ⟨fun c m => by cases List.mem_singleton.mp m; trivial, ?_⟩
    rw [← hu]
    exact q2
  · rintro R B d ds sl st ih ⟨u, v, s_4, s_5, s_6, s_7, s_8, rfl, rfl, hd, hu⟩
    cases v with
    | nil => cases hd
    | cons w v =>
    rw [List.map_cons, List.cons.injEq] at hd
    obtain ⟨rfl, rfl⟩ := hd
    have hww : 1 ≤ w ∧ w ≤ 1000 := by
      have mw : w ∈ ws.map toN := by rw [hu]; exact List.mem_append_right _ List.mem_cons_self
      obtain ⟨d, md, rfl⟩ := List.mem_map.mp mw
      obtain ⟨y, rfl, hy⟩ := hw d md
      show 1 ≤ y.toNat ∧ y.toNat ≤ 1000
      omega
    simp only [↓Pz.gNm_ap, List.set]
    rw [seq_mk]
    subst_eqs
    refine lc_map (fun d => .int ((pcN w (tl (toZ d)) : Nat) : Int)) (by rw [List.length_map]; omega) (fun d md R5 hR => ?_) ?_
    · obtain ⟨l, ml, rfl⟩ := List.mem_map.mp md
      subst_vars
      have e : colZ (w : Int) (SX.S l) = ((pcN w l : Nat) : Int) := by
        unfold colZ pcN
        rw [show tl (SX.S l) = l from tl_S l, colR_N (by omega)]
      rw [e]
      have := (hS l ml).2
      exact ⟨⟨by rw [SX.S_len]; omega, by omega, by omega⟩, hR⟩
    rw [plD_eq]
    have hpb : ∀ n ∈ S.map (pcN w), n ≤ 1000000 := fun n mn => by
      obtain ⟨l, ml, rfl⟩ := List.mem_map.mp mn
      exact pc_bd (by omega) (by omega) (hS l ml).2
    have hpl : (plD w S).length = S.length := by unfold plD; rw [List.length_map, List.length_map]
    obtain ⟨M, rfl⟩ : ∃ M : Nat, m = M := ⟨m.toNat, by omega⟩
    rw [Int.toNat_natCast]
    have hul : u.length ≤ 100 := by
      have := congrArg List.length hu
      rw [List.length_append, List.length_map] at this
      omega
    have hml := mvL_len M S u
    have hst : (∀ n : Nat, n ∈ S.map (pcN w) → True) := fun _ _ => trivial
    refine seq_cut (fun sl st => sl = [some (.d (.tuple (S.map fun l => .str (SX.S l)))), some (.d (.list ws)), some (.d (.int (M : Nat))), some (.o 0), some (.d (.int (w : Nat))), some (.d (.list (plD w S))), s_6, s_7, s_8] ∧ st = [.lst (mvD (mvL u M S ++ mvW true M S [w]))]) (fun R2 hR2 => ?_) ?_
    · nofun
      refine ⟨_, as_nats _, by rw [List.length_map, List.length_map]; exact hl0, ?_⟩
      have hfm := fit_max (x := true) (w := w) (m := M) hl0
      have e1 : (S.map fun l => (tbX true w l).1 + (tbX true w l).2) = S.map (pcN w) := List.map_congr_left fun l _ => Nat.zero_add _
      rw [e1] at hfm
      split
      · rename_i hle
        have hf := hfm.mp hle
        refine lc_map (fun d => .str (Txt.mul (Str.ofString " ") (toI d))) (by omega) (fun d md R5 hR => ?_) ?_
        · obtain ⟨n, mn, rfl⟩ := List.mem_map.mp (show d ∈ (S.map (pcN w)).map fun n : Nat => PyData.int (n : Int) from md)
          have := hpb n mn
          subst_vars
          exact ⟨by omega, by omega, by rw [len_sp1]; omega, hR⟩
        · have e2 : PyData.tuple ((plD w S).map fun d => .str (Txt.mul (Str.ofString " ") (toI d))) = staD (S.map (mv1 true w)) := by
            unfold staD plD
            rw [List.map_map, List.map_map, List.map_map]
            congr 1
            refine List.map_congr_left fun l _ => ?_
            show PyData.str (Txt.mul (Str.ofString " ") ((pcN w l : Nat) : Int)) = .str (SX.S (mv1 true w l))
            congr 1
            exact S_of_tl (by rw [tl_mul1 tl_sp1, Int.toNat_natCast]; rfl)
          nofun
          rw [e2]
          refine ⟨by rw [mvD_len]; omega, hR2 _ _ ⟨rfl, ?_⟩⟩
          rw [mvW_one, if_pos hf, mvD_app]
          rfl
      · rename_i hle
        have hf : ¬ fitS true w M S = true := fun h => hle (hfm.mpr h)
        refine hR2 _ _ ⟨rfl, ?_⟩
        rw [mvW_one, if_neg hf, List.append_nil]
    · rintro sl st ⟨rfl, rfl⟩
      nofun
      refine lc_map (fun d => .int (toI d / (w : Int) + toI d % (w : Int))) (by omega) (fun d md R5 hR => ?_) ?_
      · obtain ⟨n, mn, rfl⟩ := List.mem_map.mp (show d ∈ (S.map (pcN w)).map fun n : Nat => PyData.int (n : Int) from md)
        subst_vars
        exact ⟨cdw (by omega) (by omega), by omega, hR⟩
      have e1 : (plD w S).map (fun d => PyData.int (toI d / (w : Int) + toI d % (w : Int))) = (S.map fun l => (tbX false w l).1 + (tbX false w l).2).map fun n : Nat => PyData.int (n : Int) := by
        unfold plD
        rw [List.map_map, List.map_map, List.map_map]
        refine List.map_congr_left fun l _ => ?_
        show PyData.int (((pcN w l : Nat) : Int) / (w : Int) + ((pcN w l : Nat) : Int) % (w : Int)) = .int (((pcN w l / w + pcN w l % w : Nat)) : Int)
        rw [Int.natCast_add, Int.natCast_ediv, Int.natCast_emod]
      rw [e1]
      nofun
      refine ⟨_, as_nats _, by rw [List.length_map, List.length_map]; exact hl0, ?_⟩
      have hfm := fit_max (x := false) (w := w) (m := M) hl0
      have hml2 := mvW_len true M S [w]
      rw [List.length_singleton] at hml2
      split
      · rename_i hle
        have hf := hfm.mp hle
        nofun
        refine lc_map (fun d => .str (Txt.mul (Str.ofString "\t") (toI d / (w : Int)) ++ Txt.mul (Str.ofString " ") (toI d % (w : Int)))) (by omega) (fun d md R5 hR => ?_) ?_
        · obtain ⟨n, mn, rfl⟩ := List.mem_map.mp (show d ∈ (S.map (pcN w)).map fun n : Nat => PyData.int (n : Int) from md)
          have hn := hpb n mn
          obtain ⟨l, ml, rfl⟩ := List.mem_map.mp mn
          have hsh := pc_short (w := w) (by omega) l
          have hl2 := (hS l ml).2
          have ed := Int.natCast_ediv (pcN w l) w
          have em := Int.natCast_emod (pcN w l) w
          subst_vars
          rw [← ed, ← em]
          have hR' : R5 (.d (.str (Txt.mul (Str.ofString "\t") ((pcN w l / w : Nat) : Int) ++ Txt.mul (Str.ofString " ") ((pcN w l % w : Nat) : Int)))) [.lst (mvD (mvL u M S ++ mvW true M S [w]))] := by
            rw [ed, em]
            exact hR
          clear hR ed em
          generalize pcN w l / w = a at *
          generalize pcN w l % w = b at *
          refine ⟨cdw (by omega) (by omega), by omega, by omega, by rw [len_tab1, Int.toNat_natCast]; omega, by omega, by omega, by omega, by rw [len_sp1, Int.toNat_natCast]; omega, ?_, hR'⟩
          rw [Pz.len_tl, Pz.len_tl, tl_mul1 tl_tab1, tl_mul1 tl_sp1, List.length_replicate, List.length_replicate, Int.toNat_natCast, Int.toNat_natCast]
          omega
        · have e2 : PyData.tuple ((plD w S).map fun d => .str (Txt.mul (Str.ofString "\t") (toI d / (w : Int)) ++ Txt.mul (Str.ofString " ") (toI d % (w : Int)))) = staD (S.map (mv1 false w)) := by
            unfold staD plD
            rw [List.map_map, List.map_map, List.map_map]
            congr 1
            refine List.map_congr_left fun l _ => ?_
            show PyData.str (Txt.mul (Str.ofString "\t") (((pcN w l : Nat) : Int) / (w : Int)) ++ Txt.mul (Str.ofString " ") (((pcN w l : Nat) : Int) % (w : Int))) = .str (SX.S (mv1 false w l))
            congr 1
            rw [← Int.natCast_ediv, ← Int.natCast_emod, mul_ts]
            rfl
          rw [e2]
          refine ⟨trivial, ?_⟩
          show (mvD (mvL u M S ++ mvW true M S [w])).length < 16777216 ∧ _
          refine ⟨by rw [mvD_len, List.length_append]; omega, ?_⟩
          have e3 : mvD (mvL u M S ++ mvW true M S [w]) ++ [PyData.tuple [.tuple [.str (Str.ofString "collapse"), .int (w : Nat)], staD (S.map (mv1 false w))]] = mvD (mvL (u ++ [w]) (M : Int).toNat S) := by
            rw [Int.toNat_natCast, mvL_snoc, mvW_one false, if_pos hf, ← List.append_assoc, mvD_app _ [_]]
            rfl
          show R _ [.lst (mvD (mvL u M S ++ mvW true M S [w]) ++ [PyData.tuple [.tuple [.str (Str.ofString "collapse"), .int (w : Nat)], staD (S.map (mv1 false w))]])]
          rw [e3]
          exact ih _ _ ⟨u ++ [w], v, _, _, _, _, _, rfl, rfl, rfl, (by rw [hu, List.append_assoc]; rfl)⟩
      · rename_i hle
        have hf : ¬ fitS false w M S = true := fun h => hle (hfm.mpr h)
        have e3 : mvD (mvL u M S ++ mvW true M S [w]) = mvD (mvL (u ++ [w]) (M : Int).toNat S) := by
          rw [Int.toNat_natCast, mvL_snoc, mvW_one false, if_neg hf, List.append_nil]
        rw [e3]
        exact ih _ _ ⟨u ++ [w], v, _, _, _, _, _, rfl, rfl, rfl, (by rw [hu, List.append_assoc]; rfl)⟩
theorem ok_moves (T : Tx K mg base f_column f__law_pen f__law_draw f__law_column f__law_told f_moved f__law_size f__law_moves f_moves f__law_any f__law_layers f_next_layer f__law_state f_shortest_conversion f__law_right f_law fd_column fd__law_pen fd__law_draw fd__law_column fd__law_told fd_moved fd__law_size fd__law_moves fd_moves fd__law_any fd__law_layers fd_next_layer fd__law_state fd_shortest_conversion fd__law_right fd_law e__law_right) : FnD P w K mg base CX0 3 f_moves fd_moves ["state", "widths", "limit"] sp_moves := by
  refine FnD.of0 T.d_moves.F sc_moves 0 _ (fun cdv A outer s H E Z0 hA hr hz => (dss_cons (ds_set 3 sc_moves.nd (de_lstO da_nil))
      (dss_cons (ds_for PassesOwn.never rfl (di_gtup rfl T.c_WORDS (fun _ _ => (.cons (.str _) (.cons (.str _) .nil)))) (dg_name 4 sc_moves.nd) (dss_cons (ds_setLc 5 rfl sc_moves.nd (di_e (de_v 1 (pv 1))) (blkOk_by (own := [("width", 6)]) (N := N_moves) (sc := defScope s_moves) (by decide +kernel)) (by decide) (fun _ _ _ _ _ => (dg_name 6 sc_moves.nd)) (fun _ _ _ _ _ => dpt_nil) (fun _ _ _ _ _ => (de_tup (da_cons (de_tup (da_cons (de_v 4 (pv 4)) (da_cons (de_v 6 (pv 6)) da_nil))) (da_cons (de_callF fo_moved (ok_moved T) hA (hr.mono (by decide)) rfl rfl T.d_moved.g T.d_moved.F.kp T.d_moved.b (da_cons (de_v 0 (pv 0)) (da_cons (de_v 4 (pv 4)) (da_cons (de_v 6 (pv 6)) (da_cons (de_v 2 (pv 2)) da_nil))))) da_nil)))) (sw_true rfl rfl rfl (by decide +kernel)))
      (dss_one (ds_expr (de_bm md_extend PySem.F.plainAttrs_list PySem.F.slot_list_extend PySem.F.type_list_extend mt_extend (de_v 3 (pv 3)) (da_cons (de_lc rfl sc_moves.nd (di_e (de_v 5 (pv 5))) (blkOk_by (own := [("operation", 7), ("later", 8)]) (N := N_moves) (sc := defScope s_moves) (by decide +kernel)) (by decide) (fun _ _ _ _ _ => (dg_tup (n := 2) rfl (dgs_cons (dg_name 7 sc_moves.nd) (dgs_cons (dg_name 8 sc_moves.nd) dgs_nil)))) (fun _ _ _ _ _ => (dpt_one (dt_cmp d2_notN op_notN (de_v 8 (pv 8)) de_non (nomark _)))) (fun _ _ _ _ _ => (de_tup (da_cons (de_v 7 (pv 7)) (da_cons (de_v 8 (pv 8)) da_nil))))) da_nil))))))
      (dss_frz 0 3 hz (dss_one (ds_ret (de_v 3 (pv 3)))))))) ?_
  refine ho_moves fun s ws m Qd ⟨⟨S, hs, hl, hS⟩, hw, hwl, hm0, hm1⟩ q => ?_
  try dsimp only at *
  rw [st_moves]
  have q2 := q S hs
  clear q
  subst hs
  rw [seq_mk]
  subst_eqs
  refine forL_ix (fun (ds : List PyData) (sl : Sls) (st : Sto) => ∃ (u v : List Bool) (s_4 s_5 s_6 s_7 s_8 : Option Sl), sl = [some (.d (.tuple (S.map fun l => .str (SX.S l)))), some (.d (.list ws)), some (.d (.int m)), some (.o 0), s_4, s_5, s_6, s_7, s_8] ∧ st = [.lst (mvD (u.flatMap fun x => mvW x m.toNat S (ws.map toN)))] ∧ ds = v.map (fun x => .str (wdX x)) ∧ [true, false] = u ++ v) ?_ ?_ _ _ _ ⟨[], [true, false], _, _, _, _, _, rfl, rfl, rfl, rfl⟩
  · rintro sl st ⟨u, v, s_4, s_5, s_6, s_7, s_8, rfl, rfl, hd, hu⟩
    obtain rfl : v = [] := by cases v with | nil => rfl | cons _ _ => cases hd
    rw [List.append_nil] at hu
    subst hu
    nofun
    refine ⟨fun c m => by cases List.mem_singleton.mp m; trivial, ?_⟩
    have e : [true, false].flatMap (fun x => mvW x m.toNat S (ws.map toN)) = mvP (ws.map toN) m.toNat S := by
      show mvW true m.toNat S (ws.map toN) ++ (mvW false m.toNat S (ws.map toN) ++ []) = _
      rw [List.append_nil]
      rfl
    rw [e]
    exact q2
  · rintro R B d ds sl st ih ⟨u, v, s_4, s_5, s_6, s_7, s_8, rfl, rfl, hd, hu⟩
    cases v with
    | nil => cases hd
    | cons x v =>
    rw [List.map_cons, List.cons.injEq] at hd
    obtain ⟨rfl, rfl⟩ := hd
    simp only [↓Pz.gNm_ap, List.set]
    rw [seq_mk]
    subst_eqs
    refine lc_map (mvF x m.toNat S) (by omega) (fun d md R5 hR => ?_) ?_
    · obtain ⟨w, rfl, hw0⟩ := hw d md
      subst_vars
      refine ⟨⟨⟨S, rfl, hl, hS⟩, wdX_or x, by omega, by omega, by omega, by omega⟩, fun S' e => ?_⟩
      obtain rfl : S = S' := (List.map_inj_right (fun x y e => SXinj (PyData.str.inj e))).mp e
      rw [wdX_dec]
      exact hR
    · nofun
      refine lc_fil mvG (by rw [List.length_map]; omega) (fun d md R5 S5 hy hn => ?_) ?_
      · obtain ⟨d0, md0, rfl⟩ := List.mem_map.mp md
        unfold mvF at hy hn ⊢
        cases e : mvS x (toN d0) m.toNat S with
        | none =>
          rw [e] at hy hn
          subst_vars
          exact hn rfl
        | some t =>
          rw [e] at hy hn
          simp only [wipeS, ↓Pz.wC_ap, ↓Pz.wVar_ap, ↓Pz.wOp_ap, ↓Pz.wTest_ap, ↓Pz.wNil_ap, ↓Pz.wCons_ap, ↓Pz.wCall_ap, ↓Pz.wCallW_ap, ↓Pz.wApp_ap, ↓Pz.wLst_ap, ↓Pz.wTup_ap, ↓Pz.wLstO_ap, ↓Pz.wNoPart_ap, ↓Pz.wPart_ap, ↓Pz.wSl_ap, ↓Pz.wAnd_ap, ↓Pz.wOr_ap, ↓Pz.wNot_ap, ↓Pz.wAndV_ap, ↓Pz.wOrV_ap, ↓Pz.wNotV_ap, ↓Pz.wIfE_ap, ↓Pz.wTru_ap, ↓Pz.wChain_ap, ↓Pz.wNeg_ap, ↓Pz.wAug_ap, ↓Pz.gNm_ap, ↓Pz.gNl_ap, ↓Pz.gCn_ap, ↓Pz.gTp_ap, ↓Pz.wAsg_ap, ↓Pz.wItE_ap, ↓Pz.wRng1_ap, ↓Pz.wRng2_ap, ↓Pz.wYes_ap, ↓Pz.wLc_ap, ↓Pz.wLcO_ap, ↓Pz.wBM_ap, ↓Pz.wSetIx_ap, ↓Pz.wFrz_ap, ↓Pz.wCallF_ap, ↓Pz.wCallQ_ap, ↓Pz.wCallWF_ap, ↓Pz.wRev_ap, ↓Pz.wRg1_ap, ↓Pz.wRg2_ap, ↓Pz.wListRg_ap, ↓Pz.wRng3_ap, ↓Pz.wEnum_ap, ↓Pz.wZip_ap, ↓Pz.wCallQO_ap, ↓Pz.wDPut_ap, ↓Pz.wPNil_ap, ↓Pz.wPCons_ap, ↓Pz.wDisp_ap, ↓Pz.wDNew_ap, ↓Pz.wDNil_ap, ↓Pz.wEnumX_ap, ↓Pz.wCallE_ap, ↓Pz.wSlO_ap, ↓Pz.wEnumY_ap, ↓Pz.wDGet2_ap, ↓Pz.wMaxDf_ap, ↓Pz.wCallFO_ap, ↓Pz.wRevY_ap, ↓Pz.wFrzX_ap, ↓Pz.wSwp_ap, ↓Pz.wCallX_ap, ↓Pz.wCallXO_ap, ↓Pz.wCallWX_ap, ↓Pz.wRaise1_ap, ↓Pz.wRaise0_ap, ↓Pz.wTry_ap, ↓Pz.wIsE_ap, ↓Pz.wXf_ap, ↓Pz.wDispD_ap, ↓Pz.wSortLen_ap, ↓Pz.wGGet_ap, ↓Pz.wMinDf_ap, ↓Pz.wPar_ap, ↓Pz.wLam_ap, ↓Pz.wAct_ap, ↓Pz.wRep_ap, ↓Pz.wZipM_ap, ↓Pz.wLenSet_ap, ↓Pz.wBor_ap, ↓Pz.gTpL_ap, ↓Pz.wTupRg_ap, ↓Pz.wRevS_ap, ↓Pz.wFmt_ap, ↓Pz.wJoined_ap, ↓Pz.wAsgS_ap, ↓Pz.wPar3_ap, ↓Pz.wDc_ap, ↓Pz.wDGet3_ap, ↓Pz.wListV_ap, ↓Pz.wSumV_ap, ↓Pz.wDIn_ap, ↓Pz.wTGet2_ap, ↓Pz.wTPut_ap, ↓Pz.wDAug_ap, ↓Pz.wFrzL_ap, ↓Pz.wItV_ap, ↓Pz.wItI_ap, ↓Pz.wItK_ap, ↓Pz.wDisp1_ap, ↓Pz.wBorD_ap, ↓Pz.wDNewT_ap, ↓Pz.wCallFD_ap, ↓Pz.wDNew_ap, ↓Pz.wItC_ap, ↓Pz.wCallXE_ap, Pz.setAll, ↓Pz.wClose_ap, ↓Pz.wSetIxO_ap, ↓Pz.oIxS_ap, ↓Pz.wRaise3_ap, ↓Pz.oMulT_ap, Pz.dkX, Pz.unKD_kdD, Option.isSome_some, ↓Pz.wOrX_apS, ↓Pz.wAndX_apS, ↓Pz.orP_str, Pz.orP_some, Pz.orP_none, ↓oTGet, ↓oLtS, ↓oLtT, ↓fListKy, ↓fSortKy, ↓fLenD_o, ↓Pz.aFD, Pz.unD_K, Pz.unD_T, Pz.kyS_t, Pz.keysL_nil, Pz.keysL_ci, Pz.keysL_cs, ↓Pz.dtAt_o, Pz.dtAt_L, ↓Pz.dkAny_o, Pz.dkAny_D, Pz.dkAny_L, ↓Pz.dvAt_o, Pz.dvAt_D, Pz.dvAt_L, Pz.dvAt_T, ↓Pz.dkyS_o, Pz.dkyS_D, Pz.dkyS_L, Pz.dkyS_T, ↓Pz.dinS_o, Pz.dinS_D, Pz.dinS_L, Pz.dinS_T, Pz.lkP_K, Pz.lkP_T, ↓ret1_dT, cl_dt, Pz.lkOf_K, Pz.lkOf_T, Pz.xor_f, Pz.xor_t, Pz.hasD_int, Option.bind, Option.bind_some, List.set, ↓seq_mk, ↓wTrim_mk, trimS, List.take_succ_cons, List.take_zero, Nat.reduceLT, ↓nx_mk, ↓set_mk, ↓if_mk, nthS, ↓oEq, ↓oNe, vw, ↓oAdd, ↓oSub, ↓oIadd, ↓oDGet, keyOf_str, keyOf_int, keyS_str, keyS_int, ↓dkAt_o, valE_cells, valE_at, valE_left, putE_at, putE_left, mergeE, mergeD1, kvD1, keyD_s, keyD_i, ret1_dE, cl_dk, ↓fIsi, ↓fDivmod, ↓fStr, Pz.okT_int, Pz.is_int_none, Pz.is_int_bool, Pz.is_int_int, Pz.is_int_str, Pz.is_int_list, Pz.is_int_tuple, Pz.is_int_dict, Pz.okT_bool, Pz.is_bool_none, Pz.is_bool_bool, Pz.is_bool_int, Pz.is_bool_str, Pz.is_bool_list, Pz.is_bool_tuple, Pz.is_bool_dict, Pz.okT_str, Pz.is_str_none, Pz.is_str_bool, Pz.is_str_int, Pz.is_str_str, Pz.is_str_list, Pz.is_str_tuple, Pz.is_str_dict, Pz.okT_tuple, Pz.is_tuple_none, Pz.is_tuple_bool, Pz.is_tuple_int, Pz.is_tuple_str, Pz.is_tuple_list, Pz.is_tuple_tuple, Pz.is_tuple_dict, Pz.okT_list, Pz.is_list_none, Pz.is_list_bool, Pz.is_list_int, Pz.is_list_str, Pz.is_list_list, Pz.is_list_tuple, Pz.is_list_dict, Pz.okT_dict, Pz.is_dict_none, Pz.is_dict_bool, Pz.is_dict_int, Pz.is_dict_str, Pz.is_dict_list, Pz.is_dict_tuple, Pz.is_dict_dict, ↓oFdiv, ↓oMod, ↓oMul, ↓oPow, ↓oBool, ↓oII, ↓oIsN, ↓oNotN, ↓oIn, ↓oInX, ↓oInQ, ↓oInT, ↓oIsB, ↓oIsBN, ↓oNotB, noneS, ↓ret_mk, ↓retN_mk, ↓bk_mk, ↓ct_mk, ↓expr_mk, ↓for_mk, truD, ↓oIxE, ↓mPopAt, ↓mIndex, ↓mInsert, ↓fIntS, ↓fStrN, ↓Pz.wJs_cons, ↓Pz.wJs_nil, at0, at1, at2, at3, ix10, ix20, ix21, ix30, ix31, ix32, Pz.len1, Pz.len2, Pz.len3, List.length_nil, List.length_cons, sh_int, sh_bl, sh_non, Int.reduceEq, reduceCtorEq, decide_true, decide_false, sh_nil, eqv_nn, eqv_nilL, List.isEmpty_map, sh_lit, List.flatten_replicate_singleton, List.length_replicate, eqv_int, Nat.zero_le, szL, Nat.reduceLeDiff, Nat.reduceAdd, ↓ret1_d, ↓ret1_o0, ↓ret1_o1, ↓ret1_o2, ↓ret0_o0, ↓ret_d, cl_lst, true_and, and_true, decide_eq_true_eq, ↓oSl, ↓oSlO, ↓fLen, ↓fAbs, ↓fInt, ↓fMaxE, ↓fMinE, ↓fSumE, ↓fAll, ↓fAny, ↓fList, ↓fListO, ↓fListE, ↓fListEO, ↓fTuple, ↓fSortedE, ↓fSortedS, ↓fSortedG, ↓fRep, ↓fRepX, ↓fRepZ, ↓fRepW, ↓fBool, vwJ_l, vwJ_t, vwS_l, vwS_t, vwB, dsOf, tyD, ↓mAppend, ↓mExtend, ↓mPop, ↓mReverse, ↓mSplit, ↓mSplitO, ↓mStrip, ↓mLstrip, ↓mRstrip, ↓mStr2, ↓mPart, ↓mJoinE, frzS, frzX, ↓excOf_o, ↓oDGetX, List.map_cons, List.map_nil, List.getElem?_cons_zero, List.getElem?_cons_succ, List.cons_append, List.nil_append, Bool.false_eq_true, Bool.true_eq_false, ↓reduceIte, p10_3, p10_6, p10_7, p10_9, p10_12, Option.map, ↓aQ, ↓aQO, ↓aFO, borS, atomD, ↓aXO, ↓oAddO, ↓oMulO, Option.some.injEq, exists_eq_left', exists_and_left, datO, datQ_d, ↓mCount, ↓mCountS, Bool.not_true, Bool.not_false, ↓F_column, ↓F_moved, ↓F_moves, ↓F_shortest_conversion, ↓F__law_draw, ↓F__law_size, ↓F__law_any, ↓F__law_column, ↓F__law_state, ↓F__law_moves, ↓F__law_layers, ↓F__law_told, ↓F__law_right, g_kwe_shortest_conversion_3_limit, staD]
          exact hy _ rfl
      · rw [mvG_ws x m.toNat S ws hw]
        have hlen : (mvD (mvW x m.toNat S (ws.map toN))).length ≤ 100 := by
          unfold mvD mvW
          have := List.length_filterMap_le (fun w => (mvS x w m.toNat S).map fun t => (opX x w, t)) (ws.map toN)
          rw [List.length_map] at this ⊢
          omega
        nofun
        rw [← mvD_app, show u.flatMap (fun x => mvW x m.toNat S (ws.map toN)) ++ mvW x m.toNat S (ws.map toN) = (u ++ [x]).flatMap (fun x => mvW x m.toNat S (ws.map toN)) from by rw [List.flatMap_append]; simp]
        have hu2 : u.length ≤ 2 := by
          have := congrArg List.length hu
          rw [List.length_append] at this
          simp at this
          omega
        have hf := fmW_len m.toNat S (ws.map toN) u
        rw [List.length_map] at hf
        have hf2 : ws.length * u.length ≤ 100 * 2 := Nat.mul_le_mul hwl hu2
        refine ⟨by rw [mvD_len] at hlen ⊢; rw [mvD_len]; omega, ih _ _ ⟨u ++ [x], v, _, _, _, _, _, rfl, rfl, rfl, (by rw [hu, List.append_assoc]; rfl)⟩⟩
theorem ok__law_any (T : Tx K mg base f_column f__law_pen f__law_draw f__law_column f__law_told f_moved f__law_size f__law_moves f_moves f__law_any f__law_layers f_next_layer f__law_state f_shortest_conversion f__law_right f_law fd_column fd__law_pen fd__law_draw fd__law_column fd__law_told fd_moved fd__law_size fd__law_moves fd_moves fd__law_any fd__law_layers fd_next_layer fd__law_state fd_shortest_conversion fd__law_right fd_law e__law_right) : FnD P w K mg base CX0 3 f__law_any fd__law_any ["_law_pen_here", "_law_most"] sp__law_any := by
  refine FnD.of0 T.d__law_any.F sc__law_any 1 _ (fun cdv A outer s H E Z0 hA hr hz => (dss_cons (ds_setLc 2 rfl sc__law_any.nd (di_rng1 rfl T.b_range (da_cons (de_callQ fo__law_draw (ok__law_draw T) hA (hr.mono (by decide)) rfl rfl T.d__law_draw.g T.d__law_draw.F.kp T.d__law_draw.b (da_cons (de_v 0 (pv 0)) (da_cons de_int da_nil))) da_nil)) (blkOk_by (own := [("_law_k", 3)]) (N := N__law_any) (sc := defScope s__law_any) (by decide +kernel)) (by decide) (fun _ _ _ _ _ => (dg_name 3 sc__law_any.nd)) (fun _ _ _ _ _ => dpt_nil) (fun _ _ _ _ _ => (de_op d2_mul op_mulR de_str (de_callQ fo__law_size (ok__law_size T) hA (hr.mono (by decide)) rfl rfl T.d__law_size.g T.d__law_size.F.kp T.d__law_size.b (da_cons (de_v 0 (pv 0)) (da_cons (de_v 1 (pv 1)) da_nil))))) (sw_true rfl rfl rfl (by decide +kernel)))
      (dss_one (ds_ret (de_bm md_joinE PySem.F.plainAttrs_str PySem.F.slot_str_join PySem.F.type_str_join mt_join de_str (da_cons (de_op d2_add op_addR (de_v 2 (pv 2)) (de_lst (da_cons (de_op d2_mul op_mulR de_str (de_callQ fo__law_size (ok__law_size T) hA (hr.mono (by decide)) rfl rfl T.d__law_size.g T.d__law_size.F.kp T.d__law_size.b (da_cons (de_v 0 (pv 0)) (da_cons (de_v 1 (pv 1)) da_nil)))) da_nil))) da_nil)))))) ?_
  refine ho__law_any fun m c n Qd p hn ⟨h0, h1⟩ q => ?_
  try dsimp only at *
  rw [st__law_any]
  rw [seq_mk]
  subst_eqs
  refine ⟨_, by assumption, by omega, ⟨by omega, by omega⟩, fun r1 a1 b1 c1 p1 => ?_⟩
  refine ⟨by omega, by omega, ?_⟩
  refine lcL_ind (fun r acc st => ∃ (j : Nat) (c : Ct), st = [c] ∧ Pen j c ∧ j + 2 * r.length ≤ n + 7 ∧ Sps m.toNat acc ∧ acc.length + r.length ≤ 3) ?_ ?_ _ _ _ ⟨_, _, rfl, p1, by rw [len_rng]; omega, (fun d m => by cases m), by rw [len_rng, List.length_nil]; omega⟩
  · rintro acc st ⟨j, c2, rfl, pj, hj, ha, hl⟩
    simp only [List.length_nil] at hj hl
    refine ⟨_, rfl, _, pj, by omega, ⟨h0, h1⟩, fun x x0 x1 c3 p3 => ?_⟩
    refine ⟨by omega, by omega, by rw [len_sp1]; omega, by omega, ?_⟩
    have hs2 : Sps m.toNat (acc ++ [PyData.str (Txt.mul (Str.ofString " ") x)]) := fun d md => by
      rcases List.mem_append.mp md with md | md
      · exact ha d md
      · rw [List.mem_singleton.mp md]; exact ⟨x.toNat, by omega, by rw [sp_spS]⟩
    obtain ⟨rs, t, e, hr, ht, hn⟩ := hs2.text (by simp)
    rw [List.length_append, List.length_singleton] at hn
    have hsm := sum_le_nat hr
    have hm := Nat.mul_le_mul (show m.toNat ≤ 100 by omega) (show rs.length ≤ 3 by omega)
    refine ⟨_, e, ?_, ?_⟩
    · rw [spS_sum, len_tab1, List.length_append, List.length_map, List.length_singleton]; omega
    · rw [join_tab]
      exact ⟨fun c m => by cases List.mem_singleton.mp m; exact p3.cl, q _ ⟨blank_ind, gMax_ind (fun x mx => by have := hr x mx; omega) (by omega), by rw [tl_S, runs_ind]; omega⟩ _ (p3.mono (by omega))⟩
  · rintro R d r acc st ih ⟨j, c2, rfl, pj, hj, ha, hl⟩
    rw [List.length_cons] at hj hl
    subst_vars
    refine ⟨_, pj, by omega, ⟨h0, h1⟩, fun x x0 x1 c3 p3 => ?_⟩
    refine ⟨by omega, by omega, by rw [len_sp1]; omega, by omega, ?_⟩
    refine ih _ _ ⟨_, _, rfl, p3, by omega, (fun d md => ?_), by rw [List.length_append, List.length_singleton]; omega⟩
    rcases List.mem_append.mp md with md | md
    · exact ha d md
    · rw [List.mem_singleton.mp md]; exact ⟨x.toNat, by omega, by rw [sp_spS]⟩
theorem ok__law_layers (T : Tx K mg base f_column f__law_pen f__law_draw f__law_column f__law_told f_moved f__law_size f__law_moves f_moves f__law_any f__law_layers f_next_layer f__law_state f_shortest_conversion f__law_right f_law fd_column fd__law_pen fd__law_draw fd__law_column fd__law_told fd_moved fd__law_size fd__law_moves fd_moves fd__law_any fd__law_layers fd_next_layer fd__law_state fd_shortest_conversion fd__law_right fd_law e__law_right) : FnD P w K mg base CX0 3 f__law_layers fd__law_layers ["_law_begin", "_law_wides", "_law_most"] sp__law_layers := by
  refine FnD.of0 T.d__law_layers.F sc__law_layers 0 _ (fun cdv A outer s H E Z0 hA hr hz => (dss_cons (ds_set 3 sc__law_layers.nd (de_disp1 (fun h => h) (u1 hr) (de_v 0 (pv 0)) de_bl))
      (dss_cons (ds_set 4 sc__law_layers.nd (de_lstO (da_cons (de_lst (da_cons (de_v 0 (pv 0)) da_nil)) da_nil)))
      (dss_cons (ds_while PassesOwn.never (DWs.dt (dw_and (dt_cmp d2_ne (op_neD hr.units) (de_ixE (de_v 4 (pv 4)) (de_neg de_int)) (de_lst da_nil) (nomark _)) (dw_and1 (dt_cmp d2_bool op_le (de_callB cd_lenD call_lenDV rfl T.b_len (by decide +kernel) (da_cons (de_v 3 (pv 3)) da_nil)) de_int (nomark _))))) (dss_trim 0 hz (dss_cons (ds_set 5 sc__law_layers.nd (de_lstO da_nil))
      (dss_cons (ds_for PassesOwn.never rfl (di_e (de_ixE (de_v 4 (pv 4)) (de_neg de_int))) (dg_name 6 sc__law_layers.nd) (dss_one (ds_for PassesOwn.never rfl (di_e (de_callF fo__law_moves (ok__law_moves T) hA (hr.mono (by decide)) rfl rfl T.d__law_moves.g T.d__law_moves.F.kp T.d__law_moves.b (da_cons (de_v 6 (pv 6)) (da_cons (de_v 1 (pv 1)) (da_cons (de_v 2 (pv 2)) da_nil))))) (dg_tup (n := 2) rfl (dgs_cons (dg_name 7 sc__law_layers.nd) (dgs_cons (dg_name 8 sc__law_layers.nd) dgs_nil))) (dss_one (ds_if (dt_dnin (fun h => h) (u1 hr) (de_v 8 (pv 8)) (de_v 3 (pv 3)) (by with_unfolding_all rfl)) (dss_cons (ds_tput (fun h => h) (u1 hr) de_bl (de_v 3 (pv 3)) (de_v 8 (pv 8)))
      (dss_one (ds_expr (de_bm md_append PySem.F.plainAttrs_list PySem.F.slot_list_append PySem.F.type_list_append mt_append (de_v 5 (pv 5)) (da_cons (de_v 8 (pv 8)) da_nil))))) dss_nil)))))
      (dss_one (ds_expr (de_bm md_append PySem.F.plainAttrs_list PySem.F.slot_list_append PySem.F.type_list_append mt_append (de_v 4 (pv 4)) (da_cons (de_callB cd_sortedG (cr_sortedG (hr.units)) rfl T.b_sorted (by decide +kernel) (da_cons (de_v 5 (pv 5)) da_nil)) da_nil))))))))
      (dss_frz 0 4 hz (dss_one (ds_ret (de_v 4 (pv 4))))))))) ?_
  refine ho__law_layers fun s ws m Qd ⟨⟨S, hs, hl0, hl, hS⟩, hw, hwl, hm0, hm1⟩ q => ?_
  try dsimp only at *
  rw [st__law_layers]
  have q2 := q S hs
  clear q
  subst hs
  rw [seq_mk]
  subst_eqs
  rw [keysL_st]
  dsimp only
  rw [seq_mk]
  subst_eqs
  rw [seq_mk]
  subst_eqs
  obtain ⟨W, hW⟩ : ∃ W, W = ws.map toN := ⟨_, rfl⟩
  obtain ⟨M, hM⟩ : ∃ M : Nat, M = m.toNat := ⟨_, rfl⟩
  rw [← hW, ← hM] at q2
  have hWl : W.length ≤ 12 := by rw [hW, List.length_map]; exact hwl
  have hSok : StOk S.length 1000 S := ⟨rfl, hS⟩
  have hkok := fun n => knS_ok (ws := W) (m := M) (k := S.length) (M := 1000) (by omega) hSok n
  refine while_ind (fun mu sl st => ∃ (i : Nat) (K : List Sta) (J : Sto) (s5 s6 s7 s8 : Option Sl), sl = [some (.d (.tuple (S.map fun l => .str (SX.S l)))), some (.d (.list ws)), some (.d (.int m)), some (.o 0), some (.o 1), s5, s6, s7, s8] ∧ st = .dT (gsD (bsD K)) :: .lst ((List.range (i + 1)).map fun j => .list ((lyS W M S j).map staD)) :: J ∧ K.Perm (knS W M S i) ∧ (∀ j, j < i → goS W M S j) ∧ (∀ c ∈ J, ∃ l, c = Ct.lst l) ∧ i + mu = 401) ?_ 401 _ _ ⟨0, [S], [], none, none, none, none, rfl, rfl, List.Perm.refl _, fun j h => by omega, (fun c m => by cases m), rfl⟩
  rintro R mu sl st ih ⟨i, K, J, s5, s6, s7, s8, rfl, rfl, hK, hgo, hJ, hmu⟩
  have hKl := hK.length_eq
  have hbd := kn_bd (W := 12) hWl i hgo
  have hlast : atI ((List.range (i + 1)).map fun j => PyData.list ((lyS W M S j).map staD)) (-1) = some (.list ((lyS W M S i).map staD)) := by
    rw [List.range_succ, List.map_append, List.map_singleton]
    exact at_last
  have hnr : ∀ c ∈ Ct.dT (gsD (bsD K)) :: Ct.lst ((List.range (i + 1)).map fun j => PyData.list ((lyS W M S j).map staD)) :: J, NoRef 1 c := fun c m => by
    rcases List.mem_cons.mp m with rfl | m
    · trivial
    · rcases List.mem_cons.mp m with rfl | m
      · trivial
      · obtain ⟨l, rfl⟩ := hJ c m; trivial
  have hkn1 := hkok i
  have hly1 : ∀ t ∈ lyS W M S i, StOk S.length 1000 t := fun t mt => hkn1 t (lyS_sub W M S i t mt)
  have hKd : (gsD (bsD K)).length = (knS W M S i).length := by rw [gs_len]; unfold bsD; rw [List.length_map, hKl]
  subst_eqs
  refine ⟨_, hlast, sh_sts hly1, ?_⟩
  rw [eqv_nilL, List.isEmpty_map, hKd]
  by_cases hem : lyS W M S i = []
  · rw [hem, if_neg (by decide)]
    exact ⟨hnr, q2 i ⟨hgo, fun g => g.1 hem⟩⟩
  rw [if_pos (by rw [List.isEmpty_eq_false_iff.mpr hem]; rfl)]
  by_cases h400 : (knS W M S i).length ≤ 400
  · rw [if_pos (by omega)]
    have hgi : goS W M S i := ⟨hem, h400⟩
    have hgr := go_grow i hgo hem
    refine ⟨2, (fun c m => ?_), ?_⟩
    · simp only [List.take_succ_cons, List.take_zero, List.mem_cons, List.not_mem_nil, or_false] at m
      rcases m with rfl | rfl <;> trivial
    simp only [List.take_succ_cons, List.take_zero, if_pos (show 0 < 2 by decide), if_pos (show 1 < 2 by decide)]
    rw [seq_mk]
    subst_eqs
    rw [seq_mk]
    subst_eqs
    refine ⟨_, hlast, ?_⟩
    dsimp only
    obtain ⟨LY, hLY⟩ : ∃ LY, LY = (List.range (i + 1)).map fun j => PyData.list ((lyS W M S j).map staD) := ⟨_, rfl⟩
    rw [← hLY]
    have hLYl : LY.length ≤ 401 := by rw [hLY, List.length_map, List.length_range]; omega
    refine forL_ix (fun (ds : List PyData) (sl : Sls) (st : Sto) => ∃ (u v : List Sta) (s_6 s_7 s_8 : Option Sl), sl = [some (.d (.tuple (S.map fun l => .str (SX.S l)))), some (.d (.list ws)), some (.d (.int m)), some (.o 0), some (.o 1), some (.o 2), s_6, s_7, s_8] ∧ st = [.dT (gsD (bsD (K ++ newS K (u.flatMap (sucL W M))))), .lst LY, .lst ((newS K (u.flatMap (sucL W M))).map staD)] ∧ ds = v.map staD ∧ lyS W M S i = u ++ v) ?_ ?_ _ _ _ ⟨[], lyS W M S i, _, _, _, (by show _ = _; rfl), (by rw [show newS K ([].flatMap (sucL W M)) = [] from rfl, List.append_nil]; rfl), rfl, rfl⟩
    · rintro sl st ⟨u, v, s_6, s_7, s_8, rfl, rfl, hd, hu⟩
      obtain rfl : v = [] := by cases v with | nil => rfl | cons _ _ => cases hd
      rw [List.append_nil] at hu
      rw [← hu]
      have hperm : (newS K ((lyS W M S i).flatMap (sucL W M))).Perm (newS (knS W M S i) ((lyS W M S i).flatMap (sucS W M))) := newS_perm (fun t => hK.mem_iff) fun t => sucL_flat
      have hDok : ∀ t ∈ newS K ((lyS W M S i).flatMap (sucL W M)), StOk S.length 1000 t := fun t mt => by
        obtain ⟨a, b⟩ := ((newS_spec _ _).2 t).mp mt
        obtain ⟨y, my, ht⟩ := List.mem_flatMap.mp a
        exact sucL_ok (ws := W) (m := M) (by omega) (hly1 y my).1 ht
      obtain ⟨D, hD⟩ : ∃ D, D = newS K ((lyS W M S i).flatMap (sucL W M)) := ⟨_, rfl⟩
      rw [← hD] at hperm hDok ⊢
      obtain ⟨s1, s2, s3⟩ := sortS_ok (L := D) fun t mt z => by
        have := (hDok t mt).1
        rw [z] at this
        simp at this
        omega
      nofun
      rw [dsort_st, srtS_eq hperm, ← lyS_succ]
      refine ⟨s1, s2, s3, by omega, ?_⟩
      refine ih (mu - 1) (by omega) _ _ ⟨i + 1, K ++ D, [.lst (D.map staD)], some (.o 2), s_6, s_7, s_8, rfl, ?_, ?_, fun j hj => ?_, ?_, by omega⟩
      · rw [List.range_succ, List.map_append, List.map_singleton, ← hLY]
      · rw [knS_succ]
        exact hK.append hperm
      · rcases Nat.lt_or_ge j i with c | c
        · exact hgo j c
        · rw [show j = i by omega]; exact hgi
      · intro c m
        rw [List.mem_singleton.mp m]
        exact ⟨_, rfl⟩
    · rintro R2 B2 d2 ds2 sl st ih2 ⟨u, v, s_6, s_7, s_8, rfl, rfl, hd, hu⟩
      cases v with
      | nil => cases hd
      | cons t v =>
      rw [List.map_cons, List.cons.injEq] at hd
      obtain ⟨rfl, rfl⟩ := hd
      have mt : t ∈ lyS W M S i := by rw [hu]; exact List.mem_append_right _ List.mem_cons_self
      have htk := hly1 t mt
      simp only [↓Pz.gNm_ap, List.set]
      nofun
      unfold staD
      dsimp only
      refine ⟨⟨⟨t, rfl, by rw [htk.1]; exact hl0, by rw [htk.1]; exact hl, htk.2⟩, hw, by omega, hm0, hm1⟩, fun t' e => ?_⟩
      obtain rfl : t = t' := (List.map_inj_right (fun x y e => SXinj (PyData.str.inj e))).mp e
      rw [← hW, ← hM]
      have hfu := flatL_len W M u
      have hul : u.length ≤ 400 := by
        have h1 := lyS_len W M S i
        have := congrArg List.length hu
        rw [List.length_append] at this
        omega
      have hfu2 : 2 * W.length * u.length ≤ 2 * 12 * 400 := Nat.mul_le_mul (Nat.mul_le_mul_left _ hWl) hul
      have hmvl := mvL_len M t W
      refine forL_ix (fun (ds : List PyData) (sl : Sls) (st : Sto) => ∃ (a b : List (PyData × Sta)) (s_7 s_8 : Option Sl), sl = [some (.d (.tuple (S.map fun l => .str (SX.S l)))), some (.d (.list ws)), some (.d (.int m)), some (.o 0), some (.o 1), some (.o 2), some (.d (staD t)), s_7, s_8] ∧ st = [.dT (gsD (bsD (K ++ newS K (u.flatMap (sucL W M) ++ a.map (·.2))))), .lst LY, .lst ((newS K (u.flatMap (sucL W M) ++ a.map (·.2))).map staD)] ∧ ds = mvD b ∧ mvL W M t = a ++ b) ?_ ?_ _ _ _ ⟨[], mvL W M t, _, _, rfl, (by rw [List.map_nil, List.append_nil]; rfl), rfl, rfl⟩
      · rintro sl st ⟨a, b, s_7, s_8, rfl, rfl, hd, ha⟩
        obtain rfl : b = [] := by cases b with | nil => rfl | cons _ _ => cases hd
        rw [List.append_nil] at ha
        have e8 : u.flatMap (sucL W M) ++ a.map (·.2) = (u ++ [t]).flatMap (sucL W M) := by
          rw [List.flatMap_append, ← ha]
          simp [sucL]
        rw [e8]
        exact ih2 _ _ ⟨u ++ [t], v, _, _, _, rfl, rfl, rfl, (by rw [hu, List.append_assoc]; rfl)⟩
      · rintro R3 B3 d3 ds3 sl st ih3 ⟨a, b, s_7, s_8, rfl, rfl, hd, ha⟩
        cases b with
        | nil => cases hd
        | cons e b =>
        rw [mvD, List.map_cons, List.cons.injEq] at hd
        obtain ⟨rfl, rfl⟩ := hd
        have hok : StOk S.length 1000 e.2 := sucL_ok (ws := W) (m := M) (by omega) htk.1 (List.mem_map_of_mem (by rw [ha]; exact List.mem_append_right _ List.mem_cons_self))
        obtain ⟨E, hE⟩ : ∃ E, E = u.flatMap (sucL W M) ++ a.map (·.2) := ⟨_, rfl⟩
        have hEl : E.length ≤ 10000 := by
          have := congrArg List.length ha
          rw [List.length_append] at this
          rw [hE, List.length_append, List.length_map]
          omega
        have hNl := newS_len K E
        have hEn : u.flatMap (sucL W M) ++ (a ++ [e]).map (·.2) = E ++ [e.2] := by rw [hE, List.map_append, List.append_assoc]; rfl
        rw [← hE]
        simp only [↓Pz.wC_ap, ↓Pz.wVar_ap, ↓Pz.wOp_ap, ↓Pz.wTest_ap, ↓Pz.wNil_ap, ↓Pz.wCons_ap, ↓Pz.wCall_ap, ↓Pz.wCallW_ap, ↓Pz.wApp_ap, ↓Pz.wLst_ap, ↓Pz.wTup_ap, ↓Pz.wLstO_ap, ↓Pz.wNoPart_ap, ↓Pz.wPart_ap, ↓Pz.wSl_ap, ↓Pz.wAnd_ap, ↓Pz.wOr_ap, ↓Pz.wNot_ap, ↓Pz.wAndV_ap, ↓Pz.wOrV_ap, ↓Pz.wNotV_ap, ↓Pz.wIfE_ap, ↓Pz.wTru_ap, ↓Pz.wChain_ap, ↓Pz.wNeg_ap, ↓Pz.wAug_ap, ↓Pz.gNm_ap, ↓Pz.gNl_ap, ↓Pz.gCn_ap, ↓Pz.gTp_ap, ↓Pz.wAsg_ap, ↓Pz.wItE_ap, ↓Pz.wRng1_ap, ↓Pz.wRng2_ap, ↓Pz.wYes_ap, ↓Pz.wLc_ap, ↓Pz.wLcO_ap, ↓Pz.wBM_ap, ↓Pz.wSetIx_ap, ↓Pz.wFrz_ap, ↓Pz.wCallF_ap, ↓Pz.wCallQ_ap, ↓Pz.wCallWF_ap, ↓Pz.wRev_ap, ↓Pz.wRg1_ap, ↓Pz.wRg2_ap, ↓Pz.wListRg_ap, ↓Pz.wRng3_ap, ↓Pz.wEnum_ap, ↓Pz.wZip_ap, ↓Pz.wCallQO_ap, ↓Pz.wDPut_ap, ↓Pz.wPNil_ap, ↓Pz.wPCons_ap, ↓Pz.wDisp_ap, ↓Pz.wDNew_ap, ↓Pz.wDNil_ap, ↓Pz.wEnumX_ap, ↓Pz.wCallE_ap, ↓Pz.wSlO_ap, ↓Pz.wEnumY_ap, ↓Pz.wDGet2_ap, ↓Pz.wMaxDf_ap, ↓Pz.wCallFO_ap, ↓Pz.wRevY_ap, ↓Pz.wFrzX_ap, ↓Pz.wSwp_ap, ↓Pz.wCallX_ap, ↓Pz.wCallXO_ap, ↓Pz.wCallWX_ap, ↓Pz.wRaise1_ap, ↓Pz.wRaise0_ap, ↓Pz.wTry_ap, ↓Pz.wIsE_ap, ↓Pz.wXf_ap, ↓Pz.wDispD_ap, ↓Pz.wSortLen_ap, ↓Pz.wGGet_ap, ↓Pz.wMinDf_ap, ↓Pz.wPar_ap, ↓Pz.wLam_ap, ↓Pz.wAct_ap, ↓Pz.wRep_ap, ↓Pz.wZipM_ap, ↓Pz.wLenSet_ap, ↓Pz.wBor_ap, ↓Pz.gTpL_ap, ↓Pz.wTupRg_ap, ↓Pz.wRevS_ap, ↓Pz.wFmt_ap, ↓Pz.wJoined_ap, ↓Pz.wAsgS_ap, ↓Pz.wPar3_ap, ↓Pz.wDc_ap, ↓Pz.wDGet3_ap, ↓Pz.wListV_ap, ↓Pz.wSumV_ap, ↓Pz.wDIn_ap, ↓Pz.wTGet2_ap, ↓Pz.wTPut_ap, ↓Pz.wDAug_ap, ↓Pz.wFrzL_ap, ↓Pz.wItV_ap, ↓Pz.wItI_ap, ↓Pz.wItK_ap, ↓Pz.wDisp1_ap, ↓Pz.wBorD_ap, ↓Pz.wDNewT_ap, ↓Pz.wCallFD_ap, ↓Pz.wDNew_ap, ↓Pz.wItC_ap, ↓Pz.wCallXE_ap, Pz.setAll, ↓Pz.wClose_ap, ↓Pz.wSetIxO_ap, ↓Pz.oIxS_ap, ↓Pz.wRaise3_ap, ↓Pz.oMulT_ap, Pz.dkX, Pz.unKD_kdD, Option.isSome_some, ↓Pz.wOrX_apS, ↓Pz.wAndX_apS, ↓Pz.orP_str, Pz.orP_some, Pz.orP_none, ↓oTGet, ↓oLtS, ↓oLtT, ↓fListKy, ↓fSortKy, ↓fLenD_o, ↓Pz.aFD, Pz.unD_K, Pz.unD_T, Pz.kyS_t, Pz.keysL_nil, Pz.keysL_ci, Pz.keysL_cs, ↓Pz.dtAt_o, Pz.dtAt_L, ↓Pz.dkAny_o, Pz.dkAny_D, Pz.dkAny_L, ↓Pz.dvAt_o, Pz.dvAt_D, Pz.dvAt_L, Pz.dvAt_T, ↓Pz.dkyS_o, Pz.dkyS_D, Pz.dkyS_L, Pz.dkyS_T, ↓Pz.dinS_o, Pz.dinS_D, Pz.dinS_L, Pz.dinS_T, Pz.lkP_K, Pz.lkP_T, ↓ret1_dT, cl_dt, Pz.lkOf_K, Pz.lkOf_T, Pz.xor_f, Pz.xor_t, Pz.hasD_int, Option.bind, Option.bind_some, List.set, ↓seq_mk, ↓wTrim_mk, trimS, List.take_succ_cons, List.take_zero, Nat.reduceLT, ↓nx_mk, ↓set_mk, ↓if_mk, nthS, ↓oEq, ↓oNe, vw, ↓oAdd, ↓oSub, ↓oIadd, ↓oDGet, keyOf_str, keyOf_int, keyS_str, keyS_int, ↓dkAt_o, valE_cells, valE_at, valE_left, putE_at, putE_left, mergeE, mergeD1, kvD1, keyD_s, keyD_i, ret1_dE, cl_dk, ↓fIsi, ↓fDivmod, ↓fStr, Pz.okT_int, Pz.is_int_none, Pz.is_int_bool, Pz.is_int_int, Pz.is_int_str, Pz.is_int_list, Pz.is_int_tuple, Pz.is_int_dict, Pz.okT_bool, Pz.is_bool_none, Pz.is_bool_bool, Pz.is_bool_int, Pz.is_bool_str, Pz.is_bool_list, Pz.is_bool_tuple, Pz.is_bool_dict, Pz.okT_str, Pz.is_str_none, Pz.is_str_bool, Pz.is_str_int, Pz.is_str_str, Pz.is_str_list, Pz.is_str_tuple, Pz.is_str_dict, Pz.okT_tuple, Pz.is_tuple_none, Pz.is_tuple_bool, Pz.is_tuple_int, Pz.is_tuple_str, Pz.is_tuple_list, Pz.is_tuple_tuple, Pz.is_tuple_dict, Pz.okT_list, Pz.is_list_none, Pz.is_list_bool, Pz.is_list_int, Pz.is_list_str, Pz.is_list_list, Pz.is_list_tuple, Pz.is_list_dict, Pz.okT_dict, Pz.is_dict_none, Pz.is_dict_bool, Pz.is_dict_int, Pz.is_dict_str, Pz.is_dict_list, Pz.is_dict_tuple, Pz.is_dict_dict, ↓oFdiv, ↓oMod, ↓oMul, ↓oPow, ↓oBool, ↓oII, ↓oIsN, ↓oNotN, ↓oIn, ↓oInX, ↓oInQ, ↓oInT, ↓oIsB, ↓oIsBN, ↓oNotB, noneS, ↓ret_mk, ↓retN_mk, ↓bk_mk, ↓ct_mk, ↓expr_mk, ↓for_mk, truD, ↓oIxE, ↓mPopAt, ↓mIndex, ↓mInsert, ↓fIntS, ↓fStrN, ↓Pz.wJs_cons, ↓Pz.wJs_nil, at0, at1, at2, at3, ix10, ix20, ix21, ix30, ix31, ix32, Pz.len1, Pz.len2, Pz.len3, List.length_nil, List.length_cons, sh_int, sh_bl, sh_non, Int.reduceEq, reduceCtorEq, decide_true, decide_false, sh_nil, eqv_nn, eqv_nilL, List.isEmpty_map, sh_lit, List.flatten_replicate_singleton, List.length_replicate, eqv_int, Nat.zero_le, szL, Nat.reduceLeDiff, Nat.reduceAdd, ↓ret1_d, ↓ret1_o0, ↓ret1_o1, ↓ret1_o2, ↓ret0_o0, ↓ret_d, cl_lst, true_and, and_true, decide_eq_true_eq, ↓oSl, ↓oSlO, ↓fLen, ↓fAbs, ↓fInt, ↓fMaxE, ↓fMinE, ↓fSumE, ↓fAll, ↓fAny, ↓fList, ↓fListO, ↓fListE, ↓fListEO, ↓fTuple, ↓fSortedE, ↓fSortedS, ↓fSortedG, ↓fRep, ↓fRepX, ↓fRepZ, ↓fRepW, ↓fBool, vwJ_l, vwJ_t, vwS_l, vwS_t, vwB, dsOf, tyD, ↓mAppend, ↓mExtend, ↓mPop, ↓mReverse, ↓mSplit, ↓mSplitO, ↓mStrip, ↓mLstrip, ↓mRstrip, ↓mStr2, ↓mPart, ↓mJoinE, frzS, frzX, ↓excOf_o, ↓oDGetX, List.map_cons, List.map_nil, List.getElem?_cons_zero, List.getElem?_cons_succ, List.cons_append, List.nil_append, Bool.false_eq_true, Bool.true_eq_false, ↓reduceIte, p10_3, p10_6, p10_7, p10_9, p10_12, Option.map, ↓aQ, ↓aQO, ↓aFO, borS, atomD, ↓aXO, ↓oAddO, ↓oMulO, Option.some.injEq, exists_eq_left', exists_and_left, datO, datQ_d, ↓mCount, ↓mCountS, Bool.not_true, Bool.not_false, ↓F_column, ↓F_moved, ↓F_moves, ↓F_shortest_conversion, ↓F__law_draw, ↓F__law_size, ↓F__law_any, ↓F__law_column, ↓F__law_state, ↓F__law_moves, ↓F__law_layers, ↓F__law_told, ↓F__law_right, g_kwe_shortest_conversion_3_limit, ky_st, gs_some, bs_keys]
        by_cases hin : e.2 ∈ K ++ newS K E
        · rw [decide_eq_true hin, if_neg (by decide)]
          refine ih3 _ _ ⟨a ++ [e], b, _, _, rfl, ?_, rfl, by rw [ha, List.append_assoc]; rfl⟩
          rw [hEn, newS_in hin]
        · rw [decide_eq_false hin, if_pos (by decide), bs_put hin]
          refine ⟨by rw [bs_len, List.length_append]; show K.length + _ < 16777216; omega, ?_⟩
          refine ⟨by rw [List.length_map]; omega, ?_⟩
          refine ih3 _ _ ⟨a ++ [e], b, _, _, rfl, ?_, rfl, by rw [ha, List.append_assoc]; rfl⟩
          rw [hEn, newS_out hin, ← List.append_assoc, List.map_append]
          rfl
  · rw [if_neg (by omega)]
    exact ⟨hnr, q2 i ⟨hgo, fun g => h400 g.2⟩⟩
theorem ok_next_layer (T : Tx K mg base f_column f__law_pen f__law_draw f__law_column f__law_told f_moved f__law_size f__law_moves f_moves f__law_any f__law_layers f_next_layer f__law_state f_shortest_conversion f__law_right f_law fd_column fd__law_pen fd__law_draw fd__law_column fd__law_told fd_moved fd__law_size fd__law_moves fd_moves fd__law_any fd__law_layers fd_next_layer fd__law_state fd_shortest_conversion fd__law_right fd_law e__law_right) : FnD P w K mg base CX0 4 f_next_layer fd_next_layer ["layer", "found", "widths", "limit"] sp_next_layer := by
  refine FnD.of0 T.d_next_layer.F sc_next_layer 1 _ (fun cdv A outer s H E Z0 hA hr hz => (dss_cons (ds_set 4 sc_next_layer.nd (de_lstO da_nil))
      (dss_cons (ds_for PassesOwn.never rfl (di_e (de_v 0 (pv 0))) (dg_name 5 sc_next_layer.nd) (dss_one (ds_for PassesOwn.never rfl (di_e (de_callF fo_moves (ok_moves T) hA (hr.mono (by decide)) rfl rfl T.d_moves.g T.d_moves.F.kp T.d_moves.b (da_cons (de_v 5 (pv 5)) (da_cons (de_v 2 (pv 2)) (da_cons (de_v 3 (pv 3)) da_nil))))) (dg_tup (n := 2) rfl (dgs_cons (dg_name 6 sc_next_layer.nd) (dgs_cons (dg_name 7 sc_next_layer.nd) dgs_nil))) (dss_one (ds_if (dt_dnin (fun h => h) (u1 hr) (de_v 7 (pv 7)) (de_v 1 (pv 1)) (by with_unfolding_all rfl)) (dss_cons (ds_tput (fun h => h) (u1 hr) (de_tup (da_cons (de_v 5 (pv 5)) (da_cons (de_v 6 (pv 6)) da_nil))) (de_v 1 (pv 1)) (de_v 7 (pv 7)))
      (dss_one (ds_expr (de_bm md_append PySem.F.plainAttrs_list PySem.F.slot_list_append PySem.F.type_list_append mt_append (de_v 4 (pv 4)) (da_cons (de_v 7 (pv 7)) da_nil))))) dss_nil)))))
      (dss_one (ds_ret (de_callB cd_sortedG (cr_sortedG (hr.units)) rfl T.b_sorted (by decide +kernel) (da_cons (de_v 4 (pv 4)) da_nil))))))) ?_
  refine e4 fun a b c d cs Qd Ed => ?_
  rintro ⟨L, X, ws, m, k, rfl, rfl, rfl, rfl, rfl, ⟨hL, hk0, hk1, hLl, hXl, hw, hwl, hm0, hm1⟩, q⟩
  refine ⟨rfl, ?_⟩
  rw [st_next_layer]
  obtain ⟨W, hW⟩ : ∃ W, W = ws.map toN := ⟨_, rfl⟩
  obtain ⟨M, hM⟩ : ∃ M : Nat, M = m.toNat := ⟨_, rfl⟩
  obtain ⟨K, hK⟩ : ∃ K, K = X.map (·.1) := ⟨_, rfl⟩
  rw [← hW, ← hM, ← hK] at q
  have hWl : W.length ≤ 12 := by rw [hW, List.length_map]; exact hwl
  have hM1 : M ≤ 1000 := by omega
  rw [seq_mk]
  subst_eqs
  rw [seq_mk]
  subst_eqs
  refine forL_ix (fun (ds : List PyData) (sl : Sls) (st : Sto) => ∃ (u v : List Sta) (D : List (Sta × PyData)) (s_5 s_6 s_7 : Option Sl), sl = [some (.d (.list (L.map staD))), some (.o 0), some (.d (.list ws)), some (.d (.int m)), some (.o 1), s_5, s_6, s_7] ∧ st = [.dT (gsD (X ++ D)), .lst ((D.map (·.1)).map staD)] ∧ ds = v.map staD ∧ L = u ++ v ∧ D.map (·.1) = newS K (u.flatMap (sucS W M)) ∧ ∀ e ∈ D, ∃ p ∈ L, ∃ op, e.2 = .tuple [staD p, op]) ?_ ?_ _ _ _ ⟨[], L, [], _, _, _, rfl, (by rw [List.append_nil]; rfl), rfl, rfl, rfl, fun e m => by cases m⟩
  · rintro sl st ⟨u, v, D, s_5, s_6, s_7, rfl, rfl, hd, hu, hD, hp⟩
    obtain rfl : v = [] := by cases v with | nil => rfl | cons _ _ => cases hd
    rw [List.append_nil] at hu
    rw [← hu] at hD
    have hDok : ∀ t ∈ D.map (·.1), StOk k 1000 t := fun t mt => by
      rw [hD] at mt
      obtain ⟨a, b⟩ := ((newS_spec _ _).2 t).mp mt
      obtain ⟨y, my, ht⟩ := List.mem_flatMap.mp a
      obtain ⟨e, me, rfl⟩ := List.mem_map.mp ht
      exact mvP_ok hM1 (hL y my).1 e me
    obtain ⟨s1, s2, s3⟩ := sortS_ok (L := D.map (·.1)) fun t mt z => by
      have := (hDok t mt).1
      rw [z] at this
      simp at this
      omega
    nofun
    rw [dsort_st]
    have q2 := q D hD hp
    rw [hD]
    rw [hD] at s1 s2 s3
    exact ⟨s1, s2, s3, q2⟩
  · rintro R2 B2 d2 ds2 sl st ih2 ⟨u, v, D, s_5, s_6, s_7, rfl, rfl, hd, hu, hD, hp⟩
    cases v with
    | nil => cases hd
    | cons t v =>
    rw [List.map_cons, List.cons.injEq] at hd
    obtain ⟨rfl, rfl⟩ := hd
    have mt : t ∈ L := by rw [hu]; exact List.mem_append_right _ List.mem_cons_self
    have htk := hL t mt
    simp only [↓Pz.gNm_ap, List.set]
    nofun
    unfold staD
    dsimp only
    refine ⟨⟨⟨t, rfl, by rw [htk.1]; exact hk1, htk.2⟩, hw, by omega, hm0, hm1⟩, fun t' e => ?_⟩
    obtain rfl : t = t' := (List.map_inj_right (fun x y e => SXinj (PyData.str.inj e))).mp e
    rw [← hW, ← hM]
    have hfu := flat_len W M u
    have hul : u.length ≤ 400 := by
      have := congrArg List.length hu
      rw [List.length_append] at this
      omega
    have hfu2 : 2 * W.length * u.length ≤ 2 * 12 * 400 := Nat.mul_le_mul (Nat.mul_le_mul_left _ hWl) hul
    have hmvl := mvP_len W M t
    refine forL_ix (fun (ds : List PyData) (sl : Sls) (st : Sto) => ∃ (a b : List (PyData × Sta)) (D : List (Sta × PyData)) (s_6 s_7 : Option Sl), sl = [some (.d (.list (L.map staD))), some (.o 0), some (.d (.list ws)), some (.d (.int m)), some (.o 1), some (.d (staD t)), s_6, s_7] ∧ st = [.dT (gsD (X ++ D)), .lst ((D.map (·.1)).map staD)] ∧ ds = mvD b ∧ mvP W M t = a ++ b ∧ D.map (·.1) = newS K (u.flatMap (sucS W M) ++ a.map (·.2)) ∧ ∀ e ∈ D, ∃ p ∈ L, ∃ op, e.2 = .tuple [staD p, op]) ?_ ?_ _ _ _ ⟨[], mvP W M t, D, _, _, rfl, rfl, rfl, rfl, (by rw [List.map_nil, List.append_nil]; exact hD), hp⟩
    · rintro sl st ⟨a, b, D, s_6, s_7, rfl, rfl, hd, ha, hD, hp⟩
      obtain rfl : b = [] := by cases b with | nil => rfl | cons _ _ => cases hd
      rw [List.append_nil] at ha
      have e8 : u.flatMap (sucS W M) ++ a.map (·.2) = (u ++ [t]).flatMap (sucS W M) := by
        rw [List.flatMap_append, ← ha]
        simp [sucS]
      rw [e8] at hD
      exact ih2 _ _ ⟨u ++ [t], v, D, _, _, _, rfl, rfl, rfl, (by rw [hu, List.append_assoc]; rfl), hD, hp⟩
    · rintro R3 B3 d3 ds3 sl st ih3 ⟨a, b, D, s_6, s_7, rfl, rfl, hd, ha, hD, hp⟩
      cases b with
      | nil => cases hd
      | cons e b =>
      rw [mvD, List.map_cons, List.cons.injEq] at hd
      obtain ⟨rfl, rfl⟩ := hd
      obtain ⟨E, hE⟩ : ∃ E, E = u.flatMap (sucS W M) ++ a.map (·.2) := ⟨_, rfl⟩
      have hEl : E.length ≤ 10000 := by
        have := congrArg List.length ha
        rw [List.length_append] at this
        rw [hE, List.length_append, List.length_map]
        omega
      have hNl := newS_len K E
      have hEn : u.flatMap (sucS W M) ++ (a ++ [e]).map (·.2) = E ++ [e.2] := by rw [hE, List.map_append, List.append_assoc]; rfl
      rw [← hE] at hD
      have hkeys : (X ++ D).map (·.1) = K ++ newS K E := by rw [List.map_append, ← hK, hD]
      have hDl : D.length ≤ 10000 := by
        have := congrArg List.length hD
        rw [List.length_map] at this
        omega
      simp only [↓Pz.wC_ap, ↓Pz.wVar_ap, ↓Pz.wOp_ap, ↓Pz.wTest_ap, ↓Pz.wNil_ap, ↓Pz.wCons_ap, ↓Pz.wCall_ap, ↓Pz.wCallW_ap, ↓Pz.wApp_ap, ↓Pz.wLst_ap, ↓Pz.wTup_ap, ↓Pz.wLstO_ap, ↓Pz.wNoPart_ap, ↓Pz.wPart_ap, ↓Pz.wSl_ap, ↓Pz.wAnd_ap, ↓Pz.wOr_ap, ↓Pz.wNot_ap, ↓Pz.wAndV_ap, ↓Pz.wOrV_ap, ↓Pz.wNotV_ap, ↓Pz.wIfE_ap, ↓Pz.wTru_ap, ↓Pz.wChain_ap, ↓Pz.wNeg_ap, ↓Pz.wAug_ap, ↓Pz.gNm_ap, ↓Pz.gNl_ap, ↓Pz.gCn_ap, ↓Pz.gTp_ap, ↓Pz.wAsg_ap, ↓Pz.wItE_ap, ↓Pz.wRng1_ap, ↓Pz.wRng2_ap, ↓Pz.wYes_ap, ↓Pz.wLc_ap, ↓Pz.wLcO_ap, ↓Pz.wBM_ap, ↓Pz.wSetIx_ap, ↓Pz.wFrz_ap, ↓Pz.wCallF_ap, ↓Pz.wCallQ_ap, ↓Pz.wCallWF_ap, ↓Pz.wRev_ap, ↓Pz.wRg1_ap, ↓Pz.wRg2_ap, ↓Pz.wListRg_ap, ↓Pz.wRng3_ap, ↓Pz.wEnum_ap, ↓Pz.wZip_ap, ↓Pz.wCallQO_ap, ↓Pz.wDPut_ap, ↓Pz.wPNil_ap, ↓Pz.wPCons_ap, ↓Pz.wDisp_ap, ↓Pz.wDNew_ap, ↓Pz.wDNil_ap, ↓Pz.wEnumX_ap, ↓Pz.wCallE_ap, ↓Pz.wSlO_ap, ↓Pz.wEnumY_ap, ↓Pz.wDGet2_ap, ↓Pz.wMaxDf_ap, ↓Pz.wCallFO_ap, ↓Pz.wRevY_ap, ↓Pz.wFrzX_ap, ↓Pz.wSwp_ap, ↓Pz.wCallX_ap, ↓Pz.wCallXO_ap, ↓Pz.wCallWX_ap, ↓Pz.wRaise1_ap, ↓Pz.wRaise0_ap, ↓Pz.wTry_ap, ↓Pz.wIsE_ap, ↓Pz.wXf_ap, ↓Pz.wDispD_ap, ↓Pz.wSortLen_ap, ↓Pz.wGGet_ap, ↓Pz.wMinDf_ap, ↓Pz.wPar_ap, ↓Pz.wLam_ap, ↓Pz.wAct_ap, ↓Pz.wRep_ap, ↓Pz.wZipM_ap, ↓Pz.wLenSet_ap, ↓Pz.wBor_ap, ↓Pz.gTpL_ap, ↓Pz.wTupRg_ap, ↓Pz.wRevS_ap, ↓Pz.wFmt_ap, ↓Pz.wJoined_ap, ↓Pz.wAsgS_ap, ↓Pz.wPar3_ap, ↓Pz.wDc_ap, ↓Pz.wDGet3_ap, ↓Pz.wListV_ap, ↓Pz.wSumV_ap, ↓Pz.wDIn_ap, ↓Pz.wTGet2_ap, ↓Pz.wTPut_ap, ↓Pz.wDAug_ap, ↓Pz.wFrzL_ap, ↓Pz.wItV_ap, ↓Pz.wItI_ap, ↓Pz.wItK_ap, ↓Pz.wDisp1_ap, ↓Pz.wBorD_ap, ↓Pz.wDNewT_ap, ↓Pz.wCallFD_ap, ↓Pz.wDNew_ap, ↓Pz.wItC_ap, ↓Pz.wCallXE_ap, Pz.setAll, ↓Pz.wClose_ap, ↓Pz.wSetIxO_ap, ↓Pz.oIxS_ap, ↓Pz.wRaise3_ap, ↓Pz.oMulT_ap, Pz.dkX, Pz.unKD_kdD, Option.isSome_some, ↓Pz.wOrX_apS, ↓Pz.wAndX_apS, ↓Pz.orP_str, Pz.orP_some, Pz.orP_none, ↓oTGet, ↓oLtS, ↓oLtT, ↓fListKy, ↓fSortKy, ↓fLenD_o, ↓Pz.aFD, Pz.unD_K, Pz.unD_T, Pz.kyS_t, Pz.keysL_nil, Pz.keysL_ci, Pz.keysL_cs, ↓Pz.dtAt_o, Pz.dtAt_L, ↓Pz.dkAny_o, Pz.dkAny_D, Pz.dkAny_L, ↓Pz.dvAt_o, Pz.dvAt_D, Pz.dvAt_L, Pz.dvAt_T, ↓Pz.dkyS_o, Pz.dkyS_D, Pz.dkyS_L, Pz.dkyS_T, ↓Pz.dinS_o, Pz.dinS_D, Pz.dinS_L, Pz.dinS_T, Pz.lkP_K, Pz.lkP_T, ↓ret1_dT, cl_dt, Pz.lkOf_K, Pz.lkOf_T, Pz.xor_f, Pz.xor_t, Pz.hasD_int, Option.bind, Option.bind_some, List.set, ↓seq_mk, ↓wTrim_mk, trimS, List.take_succ_cons, List.take_zero, Nat.reduceLT, ↓nx_mk, ↓set_mk, ↓if_mk, nthS, ↓oEq, ↓oNe, vw, ↓oAdd, ↓oSub, ↓oIadd, ↓oDGet, keyOf_str, keyOf_int, keyS_str, keyS_int, ↓dkAt_o, valE_cells, valE_at, valE_left, putE_at, putE_left, mergeE, mergeD1, kvD1, keyD_s, keyD_i, ret1_dE, cl_dk, ↓fIsi, ↓fDivmod, ↓fStr, Pz.okT_int, Pz.is_int_none, Pz.is_int_bool, Pz.is_int_int, Pz.is_int_str, Pz.is_int_list, Pz.is_int_tuple, Pz.is_int_dict, Pz.okT_bool, Pz.is_bool_none, Pz.is_bool_bool, Pz.is_bool_int, Pz.is_bool_str, Pz.is_bool_list, Pz.is_bool_tuple, Pz.is_bool_dict, Pz.okT_str, Pz.is_str_none, Pz.is_str_bool, Pz.is_str_int, Pz.is_str_str, Pz.is_str_list, Pz.is_str_tuple, Pz.is_str_dict, Pz.okT_tuple, Pz.is_tuple_none, Pz.is_tuple_bool, Pz.is_tuple_int, Pz.is_tuple_str, Pz.is_tuple_list, Pz.is_tuple_tuple, Pz.is_tuple_dict, Pz.okT_list, Pz.is_list_none, Pz.is_list_bool, Pz.is_list_int, Pz.is_list_str, Pz.is_list_list, Pz.is_list_tuple, Pz.is_list_dict, Pz.okT_dict, Pz.is_dict_none, Pz.is_dict_bool, Pz.is_dict_int, Pz.is_dict_str, Pz.is_dict_list, Pz.is_dict_tuple, Pz.is_dict_dict, ↓oFdiv, ↓oMod, ↓oMul, ↓oPow, ↓oBool, ↓oII, ↓oIsN, ↓oNotN, ↓oIn, ↓oInX, ↓oInQ, ↓oInT, ↓oIsB, ↓oIsBN, ↓oNotB, noneS, ↓ret_mk, ↓retN_mk, ↓bk_mk, ↓ct_mk, ↓expr_mk, ↓for_mk, truD, ↓oIxE, ↓mPopAt, ↓mIndex, ↓mInsert, ↓fIntS, ↓fStrN, ↓Pz.wJs_cons, ↓Pz.wJs_nil, at0, at1, at2, at3, ix10, ix20, ix21, ix30, ix31, ix32, Pz.len1, Pz.len2, Pz.len3, List.length_nil, List.length_cons, sh_int, sh_bl, sh_non, Int.reduceEq, reduceCtorEq, decide_true, decide_false, sh_nil, eqv_nn, eqv_nilL, List.isEmpty_map, sh_lit, List.flatten_replicate_singleton, List.length_replicate, eqv_int, Nat.zero_le, szL, Nat.reduceLeDiff, Nat.reduceAdd, ↓ret1_d, ↓ret1_o0, ↓ret1_o1, ↓ret1_o2, ↓ret0_o0, ↓ret_d, cl_lst, true_and, and_true, decide_eq_true_eq, ↓oSl, ↓oSlO, ↓fLen, ↓fAbs, ↓fInt, ↓fMaxE, ↓fMinE, ↓fSumE, ↓fAll, ↓fAny, ↓fList, ↓fListO, ↓fListE, ↓fListEO, ↓fTuple, ↓fSortedE, ↓fSortedS, ↓fSortedG, ↓fRep, ↓fRepX, ↓fRepZ, ↓fRepW, ↓fBool, vwJ_l, vwJ_t, vwS_l, vwS_t, vwB, dsOf, tyD, ↓mAppend, ↓mExtend, ↓mPop, ↓mReverse, ↓mSplit, ↓mSplitO, ↓mStrip, ↓mLstrip, ↓mRstrip, ↓mStr2, ↓mPart, ↓mJoinE, frzS, frzX, ↓excOf_o, ↓oDGetX, List.map_cons, List.map_nil, List.getElem?_cons_zero, List.getElem?_cons_succ, List.cons_append, List.nil_append, Bool.false_eq_true, Bool.true_eq_false, ↓reduceIte, p10_3, p10_6, p10_7, p10_9, p10_12, Option.map, ↓aQ, ↓aQO, ↓aFO, borS, atomD, ↓aXO, ↓oAddO, ↓oMulO, Option.some.injEq, exists_eq_left', exists_and_left, datO, datQ_d, ↓mCount, ↓mCountS, Bool.not_true, Bool.not_false, ↓F_column, ↓F_moved, ↓F_moves, ↓F_shortest_conversion, ↓F__law_draw, ↓F__law_size, ↓F__law_any, ↓F__law_column, ↓F__law_state, ↓F__law_moves, ↓F__law_layers, ↓F__law_told, ↓F__law_right, g_kwe_shortest_conversion_3_limit, ky_st, gs_some]
      rw [hkeys]
      by_cases hin : e.2 ∈ K ++ newS K E
      · rw [decide_eq_true hin, if_neg (by decide)]
        refine ih3 _ _ ⟨a ++ [e], b, D, _, _, rfl, rfl, rfl, (by rw [ha, List.append_assoc]; rfl), ?_, hp⟩
        rw [hEn, newS_in hin]
        exact hD
      · rw [decide_eq_false hin, if_pos (by decide), gs_put _ (by rw [hkeys]; exact hin)]
        refine ⟨by rw [gs_len, List.length_append]; show X.length + _ < 16777216; omega, ?_⟩
        refine ⟨by rw [List.length_map, List.length_map]; omega, ?_⟩
        rw [List.append_assoc, show (D.map (·.1)).map staD ++ [staD e.2] = ((D ++ [(e.2, PyData.tuple [staD t, e.1])]).map (·.1)).map staD from by rw [List.map_append, List.map_append]; rfl]
        refine ih3 _ _ ⟨a ++ [e], b, D ++ [(e.2, PyData.tuple [staD t, e.1])], _, _, rfl, rfl, rfl, (by rw [ha, List.append_assoc]; rfl), ?_, ?_⟩
        · rw [hEn, newS_out hin, List.map_append, hD]
          rfl
        · intro y my
          rcases List.mem_append.mp my with my | my
          · exact hp y my
          · rw [List.mem_singleton.mp my]
            exact ⟨t, mt, e.1, rfl⟩
theorem ok__law_state (T : Tx K mg base f_column f__law_pen f__law_draw f__law_column f__law_told f_moved f__law_size f__law_moves f_moves f__law_any f__law_layers f_next_layer f__law_state f_shortest_conversion f__law_right f_law fd_column fd__law_pen fd__law_draw fd__law_column fd__law_told fd_moved fd__law_size fd__law_moves fd_moves fd__law_any fd__law_layers fd_next_layer fd__law_state fd_shortest_conversion fd__law_right fd_law e__law_right) : FnD P w K mg base CX0 4 f__law_state fd__law_state ["_law_pen_here", "_law_many", "_law_most"] sp__law_state := by
  refine FnD.of0 T.d__law_state.F sc__law_state 1 _ (fun cdv A outer s H E Z0 hA hr hz => (dss_cons (ds_set 3 sc__law_state.nd (de_lstO da_nil))
      (dss_cons (ds_for PassesOwn.never rfl (di_rng1 rfl T.b_range (da_cons (de_v 1 (pv 1)) da_nil)) (dg_name 4 sc__law_state.nd) (dss_cons (ds_set 5 sc__law_state.nd (de_callQ fo__law_any (ok__law_any T) hA (hr.mono (by decide)) rfl rfl T.d__law_any.g T.d__law_any.F.kp T.d__law_any.b (da_cons (de_v 0 (pv 0)) (da_cons (de_ixE (de_lst (da_cons de_int (da_cons de_int (da_cons de_int da_nil)))) (de_callQ fo__law_draw (ok__law_draw T) hA (hr.mono (by decide)) rfl rfl T.d__law_draw.g T.d__law_draw.F.kp T.d__law_draw.b (da_cons (de_v 0 (pv 0)) (da_cons de_int da_nil)))) da_nil))))
      (dss_cons (ds_set 6 sc__law_state.nd (de_ixE (de_op d2_add op_addR (de_v 3 (pv 3)) (de_lst (da_cons (de_v 5 (pv 5)) da_nil))) de_int))
      (dss_one (ds_expr (de_bm md_append PySem.F.plainAttrs_list PySem.F.slot_list_append PySem.F.type_list_append mt_append (de_v 3 (pv 3)) (da_cons (de_slice (de_ixE (de_lst (da_cons (de_v 5 (pv 5)) (da_cons (de_v 5 (pv 5)) (da_cons (de_op d2_add op_addR (de_v 6 (pv 6)) (de_op d2_mul op_mulR de_str (de_callQ fo__law_draw (ok__law_draw T) hA (hr.mono (by decide)) rfl rfl T.d__law_draw.g T.d__law_draw.F.kp T.d__law_draw.b (da_cons (de_v 0 (pv 0)) (da_cons de_int da_nil))))) (da_cons (de_op d2_add op_addR (de_v 6 (pv 6)) de_str) da_nil))))) (de_callQ fo__law_draw (ok__law_draw T) hA (hr.mono (by decide)) rfl rfl T.d__law_draw.g T.d__law_draw.F.kp T.d__law_draw.b (da_cons (de_v 0 (pv 0)) (da_cons de_int da_nil)))) dpo_none (dpo_some (de_v 2 (pv 2)))) da_nil)))))))
      (dss_one (ds_ret (de_callTy cd_tuple call_tuple_of rfl T.b_tuple (by decide +kernel) (da_cons (de_v 3 (pv 3)) da_nil))))))) ?_
  refine ho__law_state fun k m c n Qd pk hn ⟨h0, h1, h2, h3⟩ q => ?_
  try dsimp only at *
  rw [st__law_state]
  rw [seq_mk]
  subst_eqs
  rw [seq_mk]
  subst_eqs
  refine ⟨by omega, by omega, ?_⟩
  refine forL_ix (fun (ds : List PyData) (sl : Sls) (st : Sto) => ∃ (j : Nat) (c : Ct) (S : Sta) (s_4 s_5 s_6 : Option Sl), sl = [some (.o 0), some (.d (.int k)), some (.d (.int m)), some (.o 1), s_4, s_5, s_6] ∧ st = [c, .lst (S.map fun l => .str (SX.S l))] ∧ Pen j c ∧ j + 30 * ds.length ≤ n + 100 ∧ (S.length : Int) + ds.length = k ∧ ∀ l ∈ S, blankL l ∧ (l.length : Int) ≤ m) ?_ ?_ _ _ _ ⟨_, c, [], _, _, _, rfl, rfl, pk, by rw [len_rng]; omega, by rw [len_rng]; simp; omega, fun l m => by cases m⟩
  · rintro sl st ⟨j, c, S, s_4, s_5, s_6, rfl, rfl, pk, hk, hl, hS⟩
    nofun
    simp only [List.length_nil] at hk hl
    exact ⟨pk.cl, q S (by omega) hS _ (pk.mono (by omega))⟩
  · rintro R B d ds sl st ih ⟨j, c, S, s_4, s_5, s_6, rfl, rfl, pk, hk, hl, hS⟩
    rw [List.length_cons] at hk hl
    simp only [↓Pz.gNm_ap, List.set]
    rw [seq_mk]
    subst_eqs
    refine ⟨_, pk, by omega, ⟨by omega, by omega⟩, fun r1 a1 b1 c1 p1 => ?_⟩
    refine pickI (P := fun x => 0 ≤ x ∧ x ≤ 30) (by repeat (first | exact Ints.nil | refine Ints.cons (by first | omega | (constructor <;> omega)) ?_)) a1 (by simp; omega) fun g hg => ?_
    refine ⟨_, p1, by omega, ⟨by omega, by omega⟩, fun z hz c2 p2 => ?_⟩
    have hzl := hz.len hg.1
    have hSl : S.length ≤ 3 := by omega
    obtain ⟨y, ey, hyb, hyl⟩ : ∃ y : Str, atI ((S.map fun l => PyData.str (SX.S l)) ++ [PyData.str z]) 0 = some (.str y) ∧ blankL (tl y) ∧ y.length ≤ 1000 := by
      rw [atI_at (by decide) (by rw [List.length_append, List.length_singleton]; omega)]
      cases S with
      | nil => exact ⟨z, rfl, hz.1, by omega⟩
      | cons a S =>
        obtain ⟨a1, a2⟩ := hS a List.mem_cons_self
        exact ⟨SX.S a, rfl, by rw [tl_S]; exact a1, by rw [SX.S_len]; omega⟩
    rw [seq_mk]
    subst_eqs
    refine ⟨by rw [List.length_map]; omega, _, ey, ?_⟩
    dsimp only
    refine ⟨_, p2, by omega, ⟨by omega, by omega⟩, fun r2 a2 b2 c3 p3 => ?_⟩
    have hm2 : (Txt.mul (Str.ofString " ") r2).length ≤ 2 := by rw [Pz.len_tl, tl_mul1 tl_sp1, List.length_replicate]; omega
    have hb2 : blankL (tl (y ++ Txt.mul (Str.ofString " ") r2)) := by
      rw [tl_add, tl_mul1 tl_sp1]
      intro c m
      rcases List.mem_append.mp m with m | m
      · exact hyb c m
      · exact .inl (List.mem_replicate.mp m).2
    have hb3 : blankL (tl (y ++ Str.ofString "\t")) := by
      rw [tl_add, tl_tab1]
      intro c m
      rcases List.mem_append.mp m with m | m
      · exact hyb c m
      · exact .inr (List.mem_singleton.mp m)
    refine ⟨by omega, by omega, by rw [len_sp1]; omega, by omega, by rw [len_tab1]; omega, ?_⟩
    refine ⟨_, p3, by omega, ⟨by omega, by omega⟩, fun r3 a3 b3 c4 p4 => ?_⟩
    refine pickM (P := fun d => ∃ w : Str, d = .str w ∧ blankL (tl w) ∧ w.length ≤ 2000) (fun d md => ?_) a3 (by simp; omega) fun d ⟨w, e, hwb, hwl⟩ => ?_
    · simp only [List.mem_cons, List.not_mem_nil, or_false] at md
      rcases md with rfl | rfl | rfl | rfl
      · exact ⟨_, rfl, hz.1, by omega⟩
      · exact ⟨_, rfl, hz.1, by omega⟩
      · exact ⟨_, rfl, hb2, by rw [Pz.len_add]; omega⟩
      · exact ⟨_, rfl, hb3, by rw [Pz.len_add, len_tab1]; omega⟩
    subst e
    dsimp only
    have hcl := (cutS_lens w h2).1
    have e9 : PyData.str (cutS w none (some m)) = .str (SX.S (tl (cutS w none (some m)))) := by rw [SX.S_tl]
    rw [e9]
    refine ⟨by omega, by rw [List.length_map]; omega, ih _ _ ⟨_, c4, S ++ [tl (cutS w none (some m))], _, _, _, rfl, by rw [List.map_append]; rfl, p4, by omega, by rw [List.length_append, List.length_singleton]; omega, fun l ml => ?_⟩⟩
    rcases List.mem_append.mp ml with ml | ml
    · exact hS l ml
    · rw [List.mem_singleton.mp ml]
      exact ⟨by rw [tl_cutS]; exact blank_cut hwb, by rw [← Pz.len_tl]; omega⟩
theorem ok_shortest_conversion (T : Tx K mg base f_column f__law_pen f__law_draw f__law_column f__law_told f_moved f__law_size f__law_moves f_moves f__law_any f__law_layers f_next_layer f__law_state f_shortest_conversion f__law_right f_law fd_column fd__law_pen fd__law_draw fd__law_column fd__law_told fd_moved fd__law_size fd__law_moves fd_moves fd__law_any fd__law_layers fd_next_layer fd__law_state fd_shortest_conversion fd__law_right fd_law e__law_right) : FnD P w K mg base (L2.CX P w) 5 f_shortest_conversion fd_shortest_conversion ["start", "goal", "widths", "limit"] sp_shortest_conversion := by
  refine FnD.ofX T.d_shortest_conversion.F sc_shortest_conversion _ (fun cdv A outer s H E Z0 hA hr hz tk => (dss_cons (ds_set 4 sc_shortest_conversion.nd (de_disp1 (fun h => h) (u1 hr) (de_v 0 (pv 0)) de_non))
      (dss_cons (ds_set 5 sc_shortest_conversion.nd (de_lstO (da_cons (de_lst (da_cons (de_v 0 (pv 0)) da_nil)) da_nil)))
      (dss_cons (ds_while (L2.passes_of rfl) (DWs.dt (dw_and (dt_cmp d2_ne (op_neD hr.units) (de_ixE (de_v 5 (pv 5)) (de_neg de_int)) (de_lst da_nil) (nomark _)) (dw_and1 (dt_cmp d2_bool op_le (de_callB cd_lenD call_lenDV rfl T.b_len (by decide +kernel) (da_cons (de_v 4 (pv 4)) da_nil)) (de_c (C8.pe_gc rfl (glI T.c_MOST_STATES)) fun _ => .int _) (nomark _))))) (dss_one (ds_expr (de_bm md_append PySem.F.plainAttrs_list PySem.F.slot_list_append PySem.F.type_list_append mt_append (de_v 5 (pv 5)) (da_cons (de_call (ok_next_layer T) hA (hr.mono (by decide)) (by first | exact lD fun _ => rfl | exact lP fun _ => rfl | exact l4) rfl T.d_next_layer.g T.d_next_layer.F.kp T.d_next_layer.b (da_cons (de_ixE (de_v 5 (pv 5)) (de_neg de_int)) (da_cons (de_v 4 (pv 4)) (da_cons (de_v 2 (pv 2)) (da_cons (de_v 3 (pv 3)) da_nil))))) da_nil)))))
      (dss_cons (ds_if (dt_cmp d2_bool op_gt (de_callB cd_lenD call_lenDV rfl T.b_len (by decide +kernel) (da_cons (de_v 4 (pv 4)) da_nil)) (de_c (C8.pe_gc rfl (glI T.c_MOST_STATES)) fun _ => .int _) (nomark _)) (dss_one (ds_raise1 "count" rfl tk T.mk_TooMany hr rfl (da_cons (de_c (C8.pe_gc rfl (glI T.c_MOST_STATES)) fun _ => .int _) da_nil))) dss_nil)
      (dss_cons (ds_if (dt_dnin (fun h => h) (u1 hr) (de_v 1 (pv 1)) (de_v 4 (pv 4)) (by with_unfolding_all rfl)) (dss_one (ds_ret (de_tup (da_cons de_str (da_cons (de_callB cd_sortedG (cr_sortedG (hr.units)) rfl T.b_sorted (by decide +kernel) (da_cons (de_callTy cd_listKy (cr_listKy rfl) rfl T.b_list (by decide +kernel) (da_cons (de_v 4 (pv 4)) da_nil)) da_nil)) da_nil))))) dss_nil)
      (dss_cons (ds_set 6 sc_shortest_conversion.nd (de_lstO da_nil))
      (dss_cons (ds_while (L2.passes_of rfl) (dt_cmp d2_notN op_notN (de_tget (fun h => h) (u1 hr) (de_v 4 (pv 4)) (de_v 1 (pv 1))) de_non (nomark _)) (dss_cons (ds_asg (de_tget (fun h => h) (u1 hr) (de_v 4 (pv 4)) (de_v 1 (pv 1))) (dg_tup (n := 2) rfl (dgs_cons (dg_name 1 sc_shortest_conversion.nd) (dgs_cons (dg_name 7 sc_shortest_conversion.nd) dgs_nil))))
      (dss_one (ds_expr (de_bm md_append PySem.F.plainAttrs_list PySem.F.slot_list_append PySem.F.type_list_append mt_append (de_v 6 (pv 6)) (da_cons (de_v 7 (pv 7)) da_nil))))))
      (dss_one (ds_ret (de_tup (da_cons de_str (da_cons (de_revY (de_v 6 (pv 6))) (da_cons (de_slice (de_v 5 (pv 5)) dpo_none (dpo_some (de_op d2_add op_addR (de_callB cd_len call_len rfl T.b_len (by decide +kernel) (da_cons (de_v 6 (pv 6)) da_nil)) de_int))) da_nil)))))))))))))) ?_
  refine ho_shortest_conversion fun s g ws m Qd Ed ⟨⟨S, G, hs, hg, hl0, hl, hS⟩, hw, hwl, hm0, hm1⟩ q => ?_
  try dsimp only at *
  rw [st_shortest_conversion]
  have q2 := q S G hs hg
  clear q
  subst hs hg
  rw [seq_mk]
  subst_eqs
  rw [keysL_st]
  dsimp only
  rw [seq_mk]
  subst_eqs
  rw [seq_mk]
  subst_eqs
  obtain ⟨W, hW⟩ : ∃ W, W = ws.map toN := ⟨_, rfl⟩
  obtain ⟨M, hM⟩ : ∃ M : Nat, M = m.toNat := ⟨_, rfl⟩
  rw [← hW, ← hM] at q2
  have hWl : W.length ≤ 12 := by rw [hW, List.length_map]; exact hwl
  have hSok : StOk S.length 1000 S := ⟨rfl, hS⟩
  have hM1 : M ≤ 1000 := by omega
  have hkok := fun n => knS_ok (ws := W) (m := M) (k := S.length) (M := 1000) hM1 hSok n
  refine while_ind (fun mu sl st => ∃ (i : Nat) (X : List (Sta × PyData)) (s6 s7 : Option Sl), sl = [some (.d (.tuple (S.map fun l => .str (SX.S l)))), some (.d (.tuple (G.map fun l => .str (SX.S l)))), some (.d (.list ws)), some (.d (.int m)), some (.o 0), some (.o 1), s6, s7] ∧ st = [.dT (gsD X), .lst ((List.range (i + 1)).map fun j => .list ((lyS W M S j).map staD))] ∧ X.map (·.1) = knS W M S i ∧ PtOk S X ∧ (∀ j, j < i → goS W M S j) ∧ i + mu = 401) ?_ 401 _ _ ⟨0, [(S, .none)], none, none, rfl, rfl, rfl, .one, fun j h => by omega, rfl⟩
  rintro R mu sl st ih ⟨i, X, s6, s7, rfl, rfl, hK, hpt, hgo, hmu⟩
  have hKl := congrArg List.length hK
  rw [List.length_map] at hKl
  have hbd := kn_bd (W := 12) hWl i hgo
  have hlast : atI ((List.range (i + 1)).map fun j => PyData.list ((lyS W M S j).map staD)) (-1) = some (.list ((lyS W M S i).map staD)) := by
    rw [List.range_succ, List.map_append, List.map_singleton]
    exact at_last
  have hkn1 := hkok i
  have hly1 : ∀ t ∈ lyS W M S i, StOk S.length 1000 t := fun t mt => hkn1 t (lyS_sub W M S i t mt)
  have hXd : (gsD X).length = (knS W M S i).length := by rw [gs_len, hKl]
  obtain ⟨LY, hLY⟩ : ∃ LY, LY = (List.range (i + 1)).map fun j => PyData.list ((lyS W M S j).map staD) := ⟨_, rfl⟩
  rw [← hLY] at hlast ⊢
  have hLYl : LY.length = i + 1 := by rw [hLY, List.length_map, List.length_range]
  subst_eqs
  refine ⟨_, hlast, sh_sts hly1, ?_⟩
  rw [eqv_nilL, List.isEmpty_map, hXd]
  by_cases hgi : goS W M S i
  · obtain ⟨hem, h400⟩ := hgi
    rw [if_pos (by rw [List.isEmpty_eq_false_iff.mpr hem]; rfl), if_pos (by omega)]
    have hgr := go_grow i hgo hem
    refine ⟨_, hlast, ?_⟩
    show (∀ c ∈ [Ct.dT (gsD X)], Pz.Cl 0 c) ∧ _
    refine ⟨fun c m => by cases List.mem_singleton.mp m; trivial, ?_⟩
    refine ⟨lyS W M S i, X, ws, m, S.length, rfl, rfl, rfl, rfl, rfl, ⟨hly1, hl0, hl, Nat.le_trans (lyS_len W M S i) h400, by omega, hw, hwl, hm0, hm1⟩, fun D hD hp => ?_⟩
    rw [← hW, ← hM, hK] at hD ⊢
    refine ⟨fun c m => by cases List.mem_singleton.mp m; trivial, ?_⟩
    show LY.length < 16777216 ∧ R _ [.dT (gsD (X ++ D)), .lst (LY ++ [PyData.list ((srtS (newS (knS W M S i) ((lyS W M S i).flatMap (sucS W M)))).map staD)])]
    refine ⟨by omega, ih (mu - 1) (by omega) _ _ ⟨i + 1, X ++ D, s6, s7, rfl, ?_, ?_, .add hpt fun e me => ?_, fun j hj => ?_, by omega⟩⟩
    · rw [hLY, ← lyS_succ, List.range_succ (n := i + 1), List.map_append, List.map_singleton]
    · rw [List.map_append, hD, hK, knS_succ]
    · obtain ⟨p, mp, op, e1⟩ := hp e me
      exact ⟨p, by rw [hK]; exact lyS_sub W M S i p mp, op, e1⟩
    · rcases Nat.lt_or_ge j i with c | c
      · exact hgo j c
      · rw [show j = i by omega]; exact ⟨hem, h400⟩
  have hstop : StopS W M S i := ⟨hgo, hgi⟩
  obtain ⟨q3, q4⟩ := q2 i hstop
  have hnd := knS_nd W M S i
  obtain ⟨rk, hrb, hrk⟩ := pt_rank hpt (by rw [hK]; exact hnd)
  have hcut : ∀ {P Q' : Prop}, P → (if (!(lyS W M S i).isEmpty) = true then if ((knS W M S i).length : Int) ≤ 400 then Q' else P else P) := fun h => by
    split
    · rename_i h1
      split
      · rename_i h2
        exact absurd ⟨fun z => by rw [z] at h1; exact absurd h1 (by decide), by omega⟩ hgi
      · exact h
    · exact h
  refine hcut ?_
  rw [seq_mk]
  subst_eqs
  rw [hXd]
  by_cases h400 : 400 < (knS W M S i).length
  · rw [if_pos (by omega)]
    exact q3 h400
  rw [if_neg (by omega)]
  obtain ⟨q5, q6⟩ := q4 (by omega)
  have hkG : ∀ (t : Sta) (st : Sto), kyS st (.d (.tuple (t.map fun l => .str (SX.S l)))) = some (keS t) := fun t st => ky_st st t
  rw [seq_mk]
  subst_eqs
  simp only [hkG, keysL_st, gs_some]
  rw [hK]
  by_cases hG : G ∈ knS W M S i
  · rw [decide_eq_true hG, if_neg (by decide)]
    have q7 := q6 hG
    clear hLY hW hM
    rw [seq_mk]
    subst_eqs
    rw [seq_mk]
    subst_eqs
    have hGr : rk G < 401 := by
      have mG : G ∈ X.map (·.1) := by rw [hK]; exact hG
      obtain ⟨e, me, rfl⟩ := List.mem_map.mp mG
      have := hrb e me
      omega
    refine while_ind (fun mu sl st => ∃ (t : Sta) (ops : List PyData) (s7 : Option Sl), sl = [some (.d (.tuple (S.map fun l => .str (SX.S l)))), some (.d (.tuple (t.map fun l => .str (SX.S l)))), some (.d (.list ws)), some (.d (.int m)), some (.o 0), some (.o 1), some (.o 2), s7] ∧ st = [.dT (gsD X), .lst LY, .lst ops] ∧ t ∈ X.map (·.1) ∧ rk t ≤ mu ∧ ops.length + mu ≤ 401) ?_ (rk G) _ _ ⟨G, [], _, rfl, rfl, (by rw [hK]; exact hG), Nat.le_refl _, by simp; omega⟩
    rintro R2 mu2 sl st ih2 ⟨t, ops, s7, rfl, rfl, ht, hrt, hol⟩
    obtain ⟨e, me, rfl, hval⟩ := gs_val ht
    subst_eqs
    rw [keysL_st]
    dsimp only
    refine ⟨_, hval, ?_⟩
    rcases hrk e me with h | ⟨p, mp, op, h1, h2⟩
    · rw [h]
      dsimp only
      rw [if_neg (by decide)]
      exact q7 _ _
    · rw [h1] at hval ⊢
      dsimp only
      rw [if_pos (by decide)]
      simp only [↓Pz.wC_ap, ↓Pz.wVar_ap, ↓Pz.wOp_ap, ↓Pz.wTest_ap, ↓Pz.wNil_ap, ↓Pz.wCons_ap, ↓Pz.wCall_ap, ↓Pz.wCallW_ap, ↓Pz.wApp_ap, ↓Pz.wLst_ap, ↓Pz.wTup_ap, ↓Pz.wLstO_ap, ↓Pz.wNoPart_ap, ↓Pz.wPart_ap, ↓Pz.wSl_ap, ↓Pz.wAnd_ap, ↓Pz.wOr_ap, ↓Pz.wNot_ap, ↓Pz.wAndV_ap, ↓Pz.wOrV_ap, ↓Pz.wNotV_ap, ↓Pz.wIfE_ap, ↓Pz.wTru_ap, ↓Pz.wChain_ap, ↓Pz.wNeg_ap, ↓Pz.wAug_ap, ↓Pz.gNm_ap, ↓Pz.gNl_ap, ↓Pz.gCn_ap, ↓Pz.gTp_ap, ↓Pz.wAsg_ap, ↓Pz.wItE_ap, ↓Pz.wRng1_ap, ↓Pz.wRng2_ap, ↓Pz.wYes_ap, ↓Pz.wLc_ap, ↓Pz.wLcO_ap, ↓Pz.wBM_ap, ↓Pz.wSetIx_ap, ↓Pz.wFrz_ap, ↓Pz.wCallF_ap, ↓Pz.wCallQ_ap, ↓Pz.wCallWF_ap, ↓Pz.wRev_ap, ↓Pz.wRg1_ap, ↓Pz.wRg2_ap, ↓Pz.wListRg_ap, ↓Pz.wRng3_ap, ↓Pz.wEnum_ap, ↓Pz.wZip_ap, ↓Pz.wCallQO_ap, ↓Pz.wDPut_ap, ↓Pz.wPNil_ap, ↓Pz.wPCons_ap, ↓Pz.wDisp_ap, ↓Pz.wDNew_ap, ↓Pz.wDNil_ap, ↓Pz.wEnumX_ap, ↓Pz.wCallE_ap, ↓Pz.wSlO_ap, ↓Pz.wEnumY_ap, ↓Pz.wDGet2_ap, ↓Pz.wMaxDf_ap, ↓Pz.wCallFO_ap, ↓Pz.wRevY_ap, ↓Pz.wFrzX_ap, ↓Pz.wSwp_ap, ↓Pz.wCallX_ap, ↓Pz.wCallXO_ap, ↓Pz.wCallWX_ap, ↓Pz.wRaise1_ap, ↓Pz.wRaise0_ap, ↓Pz.wTry_ap, ↓Pz.wIsE_ap, ↓Pz.wXf_ap, ↓Pz.wDispD_ap, ↓Pz.wSortLen_ap, ↓Pz.wGGet_ap, ↓Pz.wMinDf_ap, ↓Pz.wPar_ap, ↓Pz.wLam_ap, ↓Pz.wAct_ap, ↓Pz.wRep_ap, ↓Pz.wZipM_ap, ↓Pz.wLenSet_ap, ↓Pz.wBor_ap, ↓Pz.gTpL_ap, ↓Pz.wTupRg_ap, ↓Pz.wRevS_ap, ↓Pz.wFmt_ap, ↓Pz.wJoined_ap, ↓Pz.wAsgS_ap, ↓Pz.wPar3_ap, ↓Pz.wDc_ap, ↓Pz.wDGet3_ap, ↓Pz.wListV_ap, ↓Pz.wSumV_ap, ↓Pz.wDIn_ap, ↓Pz.wTGet2_ap, ↓Pz.wTPut_ap, ↓Pz.wDAug_ap, ↓Pz.wFrzL_ap, ↓Pz.wItV_ap, ↓Pz.wItI_ap, ↓Pz.wItK_ap, ↓Pz.wDisp1_ap, ↓Pz.wBorD_ap, ↓Pz.wDNewT_ap, ↓Pz.wCallFD_ap, ↓Pz.wDNew_ap, ↓Pz.wItC_ap, ↓Pz.wCallXE_ap, Pz.setAll, ↓Pz.wClose_ap, ↓Pz.wSetIxO_ap, ↓Pz.oIxS_ap, ↓Pz.wRaise3_ap, ↓Pz.oMulT_ap, Pz.dkX, Pz.unKD_kdD, Option.isSome_some, ↓Pz.wOrX_apS, ↓Pz.wAndX_apS, ↓Pz.orP_str, Pz.orP_some, Pz.orP_none, ↓oTGet, ↓oLtS, ↓oLtT, ↓fListKy, ↓fSortKy, ↓fLenD_o, ↓Pz.aFD, Pz.unD_K, Pz.unD_T, Pz.kyS_t, Pz.keysL_nil, Pz.keysL_ci, Pz.keysL_cs, ↓Pz.dtAt_o, Pz.dtAt_L, ↓Pz.dkAny_o, Pz.dkAny_D, Pz.dkAny_L, ↓Pz.dvAt_o, Pz.dvAt_D, Pz.dvAt_L, Pz.dvAt_T, ↓Pz.dkyS_o, Pz.dkyS_D, Pz.dkyS_L, Pz.dkyS_T, ↓Pz.dinS_o, Pz.dinS_D, Pz.dinS_L, Pz.dinS_T, Pz.lkP_K, Pz.lkP_T, ↓ret1_dT, cl_dt, Pz.lkOf_K, Pz.lkOf_T, Pz.xor_f, Pz.xor_t, Pz.hasD_int, Option.bind, Option.bind_some, List.set, ↓seq_mk, ↓wTrim_mk, trimS, List.take_succ_cons, List.take_zero, Nat.reduceLT, ↓nx_mk, ↓set_mk, ↓if_mk, nthS, ↓oEq, ↓oNe, vw, ↓oAdd, ↓oSub, ↓oIadd, ↓oDGet, keyOf_str, keyOf_int, keyS_str, keyS_int, ↓dkAt_o, valE_cells, valE_at, valE_left, putE_at, putE_left, mergeE, mergeD1, kvD1, keyD_s, keyD_i, ret1_dE, cl_dk, ↓fIsi, ↓fDivmod, ↓fStr, Pz.okT_int, Pz.is_int_none, Pz.is_int_bool, Pz.is_int_int, Pz.is_int_str, Pz.is_int_list, Pz.is_int_tuple, Pz.is_int_dict, Pz.okT_bool, Pz.is_bool_none, Pz.is_bool_bool, Pz.is_bool_int, Pz.is_bool_str, Pz.is_bool_list, Pz.is_bool_tuple, Pz.is_bool_dict, Pz.okT_str, Pz.is_str_none, Pz.is_str_bool, Pz.is_str_int, Pz.is_str_str, Pz.is_str_list, Pz.is_str_tuple, Pz.is_str_dict, Pz.okT_tuple, Pz.is_tuple_none, Pz.is_tuple_bool, Pz.is_tuple_int, Pz.is_tuple_str, Pz.is_tuple_list, Pz.is_tuple_tuple, Pz.is_tuple_dict, Pz.okT_list, Pz.is_list_none, Pz.is_list_bool, Pz.is_list_int, Pz.is_list_str, Pz.is_list_list, Pz.is_list_tuple, Pz.is_list_dict, Pz.okT_dict, Pz.is_dict_none, Pz.is_dict_bool, Pz.is_dict_int, Pz.is_dict_str, Pz.is_dict_list, Pz.is_dict_tuple, Pz.is_dict_dict, ↓oFdiv, ↓oMod, ↓oMul, ↓oPow, ↓oBool, ↓oII, ↓oIsN, ↓oNotN, ↓oIn, ↓oInX, ↓oInQ, ↓oInT, ↓oIsB, ↓oIsBN, ↓oNotB, noneS, ↓ret_mk, ↓retN_mk, ↓bk_mk, ↓ct_mk, ↓expr_mk, ↓for_mk, truD, ↓oIxE, ↓mPopAt, ↓mIndex, ↓mInsert, ↓fIntS, ↓fStrN, ↓Pz.wJs_cons, ↓Pz.wJs_nil, at0, at1, at2, at3, ix10, ix20, ix21, ix30, ix31, ix32, Pz.len1, Pz.len2, Pz.len3, List.length_nil, List.length_cons, sh_int, sh_bl, sh_non, Int.reduceEq, reduceCtorEq, decide_true, decide_false, sh_nil, eqv_nn, eqv_nilL, List.isEmpty_map, sh_lit, List.flatten_replicate_singleton, List.length_replicate, eqv_int, Nat.zero_le, szL, Nat.reduceLeDiff, Nat.reduceAdd, ↓ret1_d, ↓ret1_o0, ↓ret1_o1, ↓ret1_o2, ↓ret0_o0, ↓ret_d, cl_lst, true_and, and_true, decide_eq_true_eq, ↓oSl, ↓oSlO, ↓fLen, ↓fAbs, ↓fInt, ↓fMaxE, ↓fMinE, ↓fSumE, ↓fAll, ↓fAny, ↓fList, ↓fListO, ↓fListE, ↓fListEO, ↓fTuple, ↓fSortedE, ↓fSortedS, ↓fSortedG, ↓fRep, ↓fRepX, ↓fRepZ, ↓fRepW, ↓fBool, vwJ_l, vwJ_t, vwS_l, vwS_t, vwB, dsOf, tyD, ↓mAppend, ↓mExtend, ↓mPop, ↓mReverse, ↓mSplit, ↓mSplitO, ↓mStrip, ↓mLstrip, ↓mRstrip, ↓mStr2, ↓mPart, ↓mJoinE, frzS, frzX, ↓excOf_o, ↓oDGetX, List.map_cons, List.map_nil, List.getElem?_cons_zero, List.getElem?_cons_succ, List.cons_append, List.nil_append, Bool.false_eq_true, Bool.true_eq_false, ↓reduceIte, p10_3, p10_6, p10_7, p10_9, p10_12, Option.map, ↓aQ, ↓aQO, ↓aFO, borS, atomD, ↓aXO, ↓oAddO, ↓oMulO, Option.some.injEq, exists_eq_left', exists_and_left, datO, datQ_d, ↓mCount, ↓mCountS, Bool.not_true, Bool.not_false, ↓F_column, ↓F_moved, ↓F_moves, ↓F_shortest_conversion, ↓F__law_draw, ↓F__law_size, ↓F__law_any, ↓F__law_column, ↓F__law_state, ↓F__law_moves, ↓F__law_layers, ↓F__law_told, ↓F__law_right, g_kwe_shortest_conversion_3_limit, keysL_st]
      refine ⟨_, hval, ?_⟩
      unfold staD
      dsimp only
      exact ⟨rfl, by omega, ih2 (mu2 - 1) (by omega) _ _ ⟨p, ops ++ [op], _, rfl, rfl, mp, by omega, by rw [List.length_append, List.length_singleton]; omega⟩⟩
  · rw [decide_eq_false hG, if_pos (by decide), gs_kyT, hK, dsort_st]
    obtain ⟨s1, s2, s3⟩ := sortS_ok (L := knS W M S i) fun t mt z => by
      have := (hkn1 t mt).1
      rw [z] at this
      simp at this
      omega
    exact ⟨s1, s2, s3, q5 hG⟩
theorem ok__law_right (T : Tx K mg base f_column f__law_pen f__law_draw f__law_column f__law_told f_moved f__law_size f__law_moves f_moves f__law_any f__law_layers f_next_layer f__law_state f_shortest_conversion f__law_right f_law fd_column fd__law_pen fd__law_draw fd__law_column fd__law_told fd_moved fd__law_size fd__law_moves fd_moves fd__law_any fd__law_layers fd_next_layer fd__law_state fd_shortest_conversion fd__law_right fd_law e__law_right) : FnD P w K mg base CX0 8 f__law_right fd__law_right ["_law_begin", "_law_wides", "_law_most", "_law_aims"] sp__law_right := by
  refine FnD.ofC0 T.d__law_right.C sc__law_right 0 _ (fun A outer s H E Z0 hA hr hz => (dss_cons (ds_set 4 sc__law_right.nd (de_lstO da_nil))
      (dss_cons (ds_for PassesOwn.never rfl (di_e (de_callF fo__law_layers (ok__law_layers T) hA (hr.mono (by decide)) rfl rfl T.d__law_layers.g T.d__law_layers.F.kp T.d__law_layers.b (da_cons (de_v 0 (pv 0)) (da_cons (de_v 1 (pv 1)) (da_cons (de_v 2 (pv 2)) da_nil))))) (dg_name 5 sc__law_right.nd) (dss_one (ds_expr (de_bm md_extend PySem.F.plainAttrs_list PySem.F.slot_list_extend PySem.F.type_list_extend mt_extend (de_v 4 (pv 4)) (da_cons (de_v 5 (pv 5)) da_nil)))))
      (dss_cons (ds_for PassesOwn.never rfl (di_e (de_op d2_add op_addR (de_v 3 (pv 3)) (de_slice (de_v 4 (pv 4)) dpo_none (dpo_some de_int)))) (dg_name 6 sc__law_right.nd) (dss_cons (ds_set 7 sc__law_right.nd (de_lam (k := 5) T.d__law_told.F sc__law_told T.d__law_told.g T.d__law_told.b (ok__law_told T) T.l__law_right rfl hA (hr.mono (by decide)) rfl (LamX.lamS_by (sc := defScope s__law_right) (by decide +kernel)) (fun A outer s H E f d hA hr => (de_callXEK (L2.takes_of rfl rfl rfl rfl) fo_shortest_conversion (ok_shortest_conversion T) hA (hr.mono (by decide)) rfl rfl T.d_shortest_conversion.g T.d_shortest_conversion.F.kp (kwe_shortest_conversion_3_limit T) (da_cons (de_v 0 (pv 0)) (da_cons (de_v 6 (pv 6)) (da_cons (de_v 1 (pv 1)) da_nil))) (dk_cons (de_v 2 (pv 2)) dk_nil))) (fun _ _ _ _ _ => rfl)))
      (dss_one (ds_if (dt_cmp d2_bool op_gt (de_callB cd_len call_len rfl T.b_len (by decide +kernel) (da_cons (de_v 4 (pv 4)) da_nil)) de_int (nomark _)) (dss_one (ds_if (dt_cmp d2_ne (op_neD hr.units) (de_v 7 (pv 7)) (de_tup (da_cons de_str (da_cons de_int da_nil))) (nomark _)) (dss_one (ds_ret de_bl)) dss_nil)) (dss_one (ds_if (DWs.dt (dw_and (dt_cmp d2_ninX (op_ninX (room65 hr)) (de_v 6 (pv 6)) (de_v 4 (pv 4)) (by with_unfolding_all rfl)) (dw_and1 (dt_cmp d2_ne (op_neD hr.units) (de_callB cd_rep (call_reprR hA (hr.units)) rfl T.b_repr (by decide +kernel) (da_cons (de_v 7 (pv 7)) da_nil)) (de_callB cd_rep (call_reprR hA (hr.units)) rfl T.b_repr (by decide +kernel) (da_cons (de_tup (da_cons de_str (da_cons (de_callB cd_sortedG (cr_sortedG (hr.units)) rfl T.b_sorted (by decide +kernel) (da_cons (de_v 4 (pv 4)) da_nil)) da_nil))) da_nil)) (nomark _))))) (dss_one (ds_ret de_bl)) (dss_one (ds_if (DWs.dt (dw_and (dt_cmp d2_inX (op_inX (room65 hr)) (de_v 6 (pv 6)) (de_v 4 (pv 4)) (by with_unfolding_all rfl)) (dw_and1 (dt_cmp d2_ne (op_neD hr.units) (de_ixE (de_v 7 (pv 7)) de_int) de_str (nomark _))))) (dss_one (ds_ret de_bl)) dss_nil))))))))
      (dss_one (ds_ret de_bl)))))) ?_
  refine ho__law_right fun s ws m as Qd ⟨⟨S, hs, hl0, hl, hS⟩, hw, hwl, hm0, hm1, As, has, hAl, hAs⟩ q => ?_
  try dsimp only at *
  rw [st__law_right]
  subst hs has
  rw [seq_mk]
  subst_eqs
  rw [seq_mk]
  subst_eqs
  refine ⟨⟨⟨S, rfl, hl0, by omega, hS⟩, hw, hwl, hm0, hm1⟩, fun S' e N hN => ?_⟩
  obtain rfl : S = S' := (List.map_inj_right (fun x y e => SXinj (PyData.str.inj e))).mp e
  obtain ⟨W, hW⟩ : ∃ W, W = ws.map toN := ⟨_, rfl⟩
  obtain ⟨M, hM⟩ : ∃ M : Nat, M = m.toNat := ⟨_, rfl⟩
  rw [← hW, ← hM] at hN ⊢
  have hWl : W.length ≤ 12 := by rw [hW, List.length_map]; exact hwl
  have hM1 : M ≤ 1000 := by omega
  have hkn : ∀ t ∈ knS W M S N, StOk S.length 1000 t := knS_ok hM1 ⟨rfl, hS⟩ N
  have hbd := kn_bd (W := 12) hWl N hN.1
  have hall := ly_all W M S N
  refine forL_ix (fun (ds : List PyData) (sl : Sls) (st : Sto) => ∃ (u v : List Nat) (s_5 s_6 s_7 : Option Sl), sl = [some (.d (.tuple (S.map fun l => .str (SX.S l)))), some (.d (.list ws)), some (.d (.int m)), some (.d (.list (As.map staD))), some (.o 0), s_5, s_6, s_7] ∧ st = [.lst (((u.map (lyS W M S)).flatten).map staD)] ∧ ds = v.map (fun i => PyData.list ((lyS W M S i).map staD)) ∧ List.range (N + 1) = u ++ v) ?_ ?_ _ _ _ ⟨[], List.range (N + 1), _, _, _, rfl, rfl, rfl, rfl⟩
  · rintro sl st ⟨u, v, s_5, s_6, s_7, rfl, rfl, hd, hu⟩
    obtain rfl : v = [] := by cases v with | nil => rfl | cons _ _ => cases hd
    rw [List.append_nil] at hu
    rw [← hu]
    obtain ⟨A, hA⟩ : ∃ A, A = ((List.range (N + 1)).map (lyS W M S)).flatten := ⟨_, rfl⟩
    rw [← hA] at hall ⊢
    have hWM : ws.map toN = W ∧ m.toNat = M := ⟨hW.symm, hM.symm⟩
    clear hA hW hM
    have hAl := hall.length_eq
    have hAk : ∀ t ∈ A, StOk S.length 1000 t := fun t mt => hkn t (hall.mem_iff.mp mt)
    rw [seq_mk]
    subst_eqs
    have hitems : ∀ d ∈ As.map staD ++ Pz.cutD (A.map staD) none (some 1), ∃ G : Sta, d = staD G ∧ StOk G.length 1000 G := fun d md => by
      rcases List.mem_append.mp md with md | md
      · obtain ⟨G, mG, rfl⟩ := List.mem_map.mp md
        exact ⟨G, rfl, hAs G mG⟩
      · obtain ⟨G, mG, rfl⟩ := List.mem_map.mp (cut_mem md)
        exact ⟨G, rfl, ⟨rfl, (hAk G mG).2⟩⟩
    have hcl := cut_len (xs := A.map staD) (lo := none) (hi := some 1)
    rw [List.length_map] at hcl
    refine ⟨by rw [List.length_map]; omega, ?_⟩
    refine forL_ix (fun (ds : List PyData) (sl : Sls) (st : Sto) => ∃ (x : Unit) (s_5 s_6 s_7 : Option Sl), sl = [some (.d (.tuple (S.map fun l => .str (SX.S l)))), some (.d (.list ws)), some (.d (.int m)), some (.d (.list (As.map staD))), some (.o 0), s_5, s_6, s_7] ∧ st = [.lst (A.map staD)] ∧ ∀ d ∈ ds, ∃ G : Sta, d = staD G ∧ StOk G.length 1000 G) ?_ ?_ _ _ _ ⟨(), _, _, _, rfl, rfl, hitems⟩
    · rintro sl st ⟨x, s_5, s_6, s_7, rfl, rfl, hd⟩
      nofun
      exact q
    · rintro R B d ds sl st ih ⟨x, s_5, s_6, s_7, rfl, rfl, hd⟩
      obtain ⟨G, rfl, hG⟩ := hd _ List.mem_cons_self
      simp only [↓Pz.gNm_ap, List.set]
      nofun
      refine mkAct_of ?_
      nofun
      refine (show _ ∧ _ from ⟨⟨⟨S, rfl, G, rfl, hl0, by omega, hS⟩, hw, hwl, hm0, hm1⟩, fun S' G' eS eG n hn => ?_⟩)
      obtain rfl : S = S' := (List.map_inj_right (fun x y e => SXinj (PyData.str.inj e))).mp eS
      obtain rfl : G = G' := (List.map_inj_right (fun x y e => SXinj (PyData.str.inj e))).mp eG
      rw [hWM.1, hWM.2] at hn ⊢
      obtain rfl := hn.uniq hN
      have hsA := sh_sts hAk
      have hsG := sh_sta hG
      have hmm : G ∈ A ↔ G ∈ knS W M S n := hall.mem_iff
      refine ⟨fun h400 => ⟨_, rfl, ?_⟩, fun h400 => ⟨fun hGn => ?_, fun hGy ops lys => ?_⟩⟩
      · rw [if_pos (by rw [List.length_map]; omega), eqv_same rfl, if_neg (by decide)]
        have hsm : SeqAt.shaped (PyData.tuple [PyData.str (Str.ofString "many"), PyData.int 400]) = true := by decide +kernel
        exact ⟨hsm, hsm, ih _ _ ⟨(), _, _, _, rfl, rfl, fun d md => hd d (List.mem_cons_of_mem _ md)⟩⟩
      · rw [if_neg (by rw [List.length_map]; omega), any_sta, decide_eq_false (fun z => hGn (hmm.mp z))]
        obtain ⟨s1, s2, s3⟩ := sortS_ok (L := A) fun t mt z => by
          have := (hAk t mt).1
          rw [z] at this
          simp at this
          omega
        have hrn := rp_nev hl (L := srtS (knS W M S n)) (by rw [(srtS_perm _).length_eq]; exact h400) fun t mt => hkn t ((srtS_perm _).mem_iff.mp mt)
        rw [dsort_st, srtS_eq hall]
        rw [if_pos (show (!false) = true from rfl), eqv_self_str, if_neg (by decide), if_neg (show ¬ false = true by decide)]
        exact ⟨hsG, hsA, hrn, s1, s2, s3, hrn, hrn.sh, hrn.sh, hsG, hsA, ih _ _ ⟨(), _, _, _, rfl, rfl, fun d md => hd d (List.mem_cons_of_mem _ md)⟩⟩
      · rw [if_neg (by rw [List.length_map]; omega), any_sta, decide_eq_true (hmm.mpr hGy), if_neg (show ¬ (!true) = true by decide), if_pos rfl, eqv_self_str, if_neg (by decide)]
        exact ⟨hsG, hsA, hsG, hsA, ih _ _ ⟨(), _, _, _, rfl, rfl, fun d md => hd d (List.mem_cons_of_mem _ md)⟩⟩
  · rintro R B d ds sl st ih ⟨u, v, s_5, s_6, s_7, rfl, rfl, hd, hu⟩
    cases v with
    | nil => cases hd
    | cons i v =>
    rw [List.map_cons, List.cons.injEq] at hd
    obtain ⟨rfl, rfl⟩ := hd
    have hlen : ((u.map (lyS W M S)).flatten).length + (lyS W M S i).length ≤ (knS W M S N).length := by
      rw [← hall.length_eq, hu, List.map_append, List.flatten_append, List.length_append, List.map_cons, List.flatten_cons, List.length_append]
      omega
    simp only [↓Pz.gNm_ap, List.set]
    nofun
    refine ⟨by rw [List.length_map, List.length_map]; omega, ih _ _ ⟨u ++ [i], v, _, _, _, rfl, ?_, rfl, by rw [hu, List.append_assoc]; rfl⟩⟩
    rw [List.map_append, List.flatten_append, List.map_singleton, List.flatten_singleton, List.map_append]
theorem ok_law (T : Tx K mg base f_column f__law_pen f__law_draw f__law_column f__law_told f_moved f__law_size f__law_moves f_moves f__law_any f__law_layers f_next_layer f__law_state f_shortest_conversion f__law_right f_law fd_column fd__law_pen fd__law_draw fd__law_column fd__law_told fd_moved fd__law_size fd__law_moves fd_moves fd__law_any fd__law_layers fd_next_layer fd__law_state fd_shortest_conversion fd__law_right fd_law e__law_right) : FnD P w K mg base CX0 9 f_law fd_law ["_law_script"] sp_law := by
  refine FnD.of0 T.d_law.F sc_law 0 _ (fun cdv A outer s H E Z0 hA hr hz => (dss_cons (ds_set 1 sc_law.nd (de_call (ok__law_pen T) hA (hr.mono (by decide)) (by first | exact lD fun _ => rfl | exact lP fun _ => rfl | exact l1) rfl T.d__law_pen.g T.d__law_pen.F.kp T.d__law_pen.b (da_cons (de_v 0 (pv 0)) da_nil)))
      (dss_cons (ds_set 2 sc_law.nd (de_op d2_add op_addR de_int (de_callQ fo__law_draw (ok__law_draw T) hA (hr.mono (by decide)) rfl rfl T.d__law_draw.g T.d__law_draw.F.kp T.d__law_draw.b (da_cons (de_v 1 (pv 1)) (da_cons de_int da_nil)))))
      (dss_cons (ds_set 3 sc_law.nd (de_callQ fo__law_state (ok__law_state T) hA (hr.mono (by decide)) rfl rfl T.d__law_state.g T.d__law_state.F.kp T.d__law_state.b (da_cons (de_v 1 (pv 1)) (da_cons (de_op d2_add op_addR de_int (de_callQ fo__law_draw (ok__law_draw T) hA (hr.mono (by decide)) rfl rfl T.d__law_draw.g T.d__law_draw.F.kp T.d__law_draw.b (da_cons (de_v 1 (pv 1)) (da_cons de_int da_nil)))) (da_cons de_int da_nil)))))
      (dss_cons (ds_set 4 sc_law.nd (de_ixE (de_lst (da_cons (de_lst (da_cons de_int (da_cons de_int (da_cons de_int (da_cons de_int (da_cons de_int (da_cons de_int da_nil))))))) (da_cons (de_lst (da_cons de_int (da_cons de_int (da_cons de_int (da_cons de_int da_nil))))) (da_cons (de_lst (da_cons de_int (da_cons de_int (da_cons de_int (da_cons de_int (da_cons de_int (da_cons de_int da_nil))))))) (da_cons (de_lst (da_cons (de_v 2 (pv 2)) (da_cons de_int da_nil))) da_nil))))) (de_callQ fo__law_draw (ok__law_draw T) hA (hr.mono (by decide)) rfl rfl T.d__law_draw.g T.d__law_draw.F.kp T.d__law_draw.b (da_cons (de_v 1 (pv 1)) (da_cons de_int da_nil)))))
      (dss_cons (ds_set 5 sc_law.nd (de_lst (da_cons (de_callQ fo__law_state (ok__law_state T) hA (hr.mono (by decide)) rfl rfl T.d__law_state.g T.d__law_state.F.kp T.d__law_state.b (da_cons (de_v 1 (pv 1)) (da_cons (de_callB cd_len call_len rfl T.b_len (by decide +kernel) (da_cons (de_v 3 (pv 3)) da_nil)) (da_cons de_int da_nil)))) (da_cons (de_op d2_mulT op_mulT (de_tup (da_cons (de_op d2_mul op_mulR de_str de_int) da_nil)) (de_callB cd_len call_len rfl T.b_len (by decide +kernel) (da_cons (de_v 3 (pv 3)) da_nil))) da_nil))))
      (dss_cons (ds_if (dt_not (dt_tru (de_callF fo__law_right (ok__law_right T) hA (hr.mono (by decide)) rfl rfl T.d__law_right.g T.d__law_right.F.kp T.d__law_right.b (da_cons (de_v 3 (pv 3)) (da_cons (de_v 4 (pv 4)) (da_cons (de_ixE (de_lst (da_cons de_int (da_cons de_int (da_cons de_int da_nil)))) (de_callQ fo__law_draw (ok__law_draw T) hA (hr.mono (by decide)) rfl rfl T.d__law_draw.g T.d__law_draw.F.kp T.d__law_draw.b (da_cons (de_v 1 (pv 1)) (da_cons de_int da_nil)))) (da_cons (de_v 5 (pv 5)) da_nil))))))) (dss_one (ds_ret de_bl)) dss_nil)
      (dss_cons (ds_set 3 sc_law.nd (de_callQ fo__law_state (ok__law_state T) hA (hr.mono (by decide)) rfl rfl T.d__law_state.g T.d__law_state.F.kp T.d__law_state.b (da_cons (de_v 1 (pv 1)) (da_cons de_int (da_cons de_int da_nil)))))
      (dss_cons (ds_set 5 sc_law.nd (de_lst (da_cons (de_callQ fo__law_state (ok__law_state T) hA (hr.mono (by decide)) rfl rfl T.d__law_state.g T.d__law_state.F.kp T.d__law_state.b (da_cons (de_v 1 (pv 1)) (da_cons de_int (da_cons de_int da_nil)))) (da_cons (de_tup (da_cons de_str da_nil)) (da_cons (de_tup (da_cons (de_op d2_mul op_mulR de_str de_int) da_nil)) da_nil)))))
      (dss_cons (ds_if (dt_not (dt_tru (de_callF fo__law_right (ok__law_right T) hA (hr.mono (by decide)) rfl rfl T.d__law_right.g T.d__law_right.F.kp T.d__law_right.b (da_cons (de_v 3 (pv 3)) (da_cons (de_ixE (de_lst (da_cons (de_lst (da_cons (de_v 2 (pv 2)) da_nil)) (da_cons (de_lst (da_cons (de_v 2 (pv 2)) (da_cons de_int da_nil))) da_nil))) (de_callQ fo__law_draw (ok__law_draw T) hA (hr.mono (by decide)) rfl rfl T.d__law_draw.g T.d__law_draw.F.kp T.d__law_draw.b (da_cons (de_v 1 (pv 1)) (da_cons de_int da_nil)))) (da_cons de_int (da_cons (de_v 5 (pv 5)) da_nil))))))) (dss_one (ds_ret de_bl)) dss_nil)
      (dss_one (ds_ret (de_callF fo__law_right (ok__law_right T) hA (hr.mono (by decide)) rfl rfl T.d__law_right.g T.d__law_right.F.kp T.d__law_right.b (da_cons (de_tup (da_cons de_str (da_cons (de_op d2_mul op_mulR de_str de_int) da_nil))) (da_cons (de_lst (da_cons de_int (da_cons de_int (da_cons de_int (da_cons de_int (da_cons de_int da_nil)))))) (da_cons de_int (da_cons (de_lst da_nil) da_nil))))))))))))))))) ?_
  refine e1 fun a cs Qd Ed => ?_
  rintro ⟨ns, rfl, rfl, q⟩
  refine ⟨rfl, ?_⟩
  rw [st_law]
  rw [seq_mk]
  subst_eqs
  refine pen_call fun c0 p0 => ?_
  rw [seq_mk]
  subst_eqs
  repeat with_reducible refine And.intro (by first | omega | decide | exact cpow (by omega) (by omega) (by omega) (by omega) | exact .inl (small (by omega) (by omega)) | exact .inr (small (by omega) (by omega)) | exact cdw (by omega) (by omega) | (simp only [Pz.len_mul, len_sp1, len_tab1, len_em, Pz.len_add, List.length_cons, List.length_nil, List.length_map, List.length_append] at *; omega) | (simp only [Pz.len_mul, len_sp1, len_tab1, len_st2, len_em, Pz.len_add]; omega)) ?_
  refine ⟨_, p0, by omega, ⟨by omega, by omega⟩, fun r0 a0 b0 c1 p1 => ?_⟩
  rw [seq_mk]
  subst_eqs
  refine ⟨_, p1, by omega, ⟨by omega, by omega⟩, fun r1 a1 b1 c2 p2 => ?_⟩
  refine ⟨_, p2, by omega, ⟨by omega, by omega, by omega, by omega⟩, fun S hSl hS c3 p3 => ?_⟩
  rw [seq_mk]
  subst_eqs
  refine ⟨_, p3, by omega, ⟨by omega, by omega⟩, fun r2 a2 b2 c4 p4 => ?_⟩
  refine pickM (P := fun d => ∃ ws : List PyData, d = .list ws ∧ Ints (fun w => 1 ≤ w ∧ w ≤ 1000) ws ∧ ws.length ≤ 12) (fun d md => ?_) a2 (by simp; omega) fun d ⟨ws, e, hw, hwl⟩ => ?_
  · simp only [List.mem_cons, List.not_mem_nil, or_false] at md
    rcases md with rfl | rfl | rfl | rfl
    · exact ⟨_, rfl, (by repeat (first | exact Ints.nil | refine Ints.cons (by first | omega | (constructor <;> omega)) ?_)), by simp⟩
    · exact ⟨_, rfl, (by repeat (first | exact Ints.nil | refine Ints.cons (by first | omega | (constructor <;> omega)) ?_)), by simp⟩
    · exact ⟨_, rfl, (by repeat (first | exact Ints.nil | refine Ints.cons (by first | omega | (constructor <;> omega)) ?_)), by simp⟩
    · exact ⟨_, rfl, (by repeat (first | exact Ints.nil | refine Ints.cons (by first | omega | (constructor <;> omega)) ?_)), by simp⟩
  subst e
  have e101 : Txt.mul (Str.ofString " ") 101 = SX.S (List.replicate 101 32) := S_of_tl (by rw [tl_mul1 tl_sp1]; rfl)
  have e12 : Txt.mul (Str.ofString " ") 12 = SX.S (List.replicate 12 32) := S_of_tl (by rw [tl_mul1 tl_sp1]; rfl)
  have b101 : ∀ n, n ≤ 1000 → blankL (List.replicate n 32) ∧ (List.replicate n 32).length ≤ 1000 := fun n hn => ⟨fun c m => .inl (List.mem_replicate.mp m).2, by rw [List.length_replicate]; exact hn⟩
  have hSn : S.length = 1 ∨ S.length = 2 := by omega
  rw [seq_mk]
  subst_eqs
  unfold staD
  dsimp only
  rw [e101]
  refine ⟨_, p4, by omega, ⟨by rw [List.length_map]; omega, by rw [List.length_map]; omega, by omega, by omega⟩, fun S2 hS2l hS2 c5 p5 => ?_⟩
  rw [List.length_map] at hS2l
  refine ⟨by omega, by omega, by rw [len_sp1]; decide, by simp, by rw [List.length_map]; omega, by rw [List.length_map]; omega, ?_⟩
  have hrep : PyData.tuple (List.replicate (((S.map fun l => PyData.str (SX.S l)).length : Nat) : Int).toNat (PyData.str (SX.S (List.replicate 101 32)))) = staD (List.replicate S.length (List.replicate 101 32)) := by
    unfold staD
    rw [List.map_replicate, List.length_map, Int.toNat_natCast]
  rw [seq_mk]
  subst_eqs
  refine ⟨_, p5, by omega, ⟨by omega, by omega⟩, fun r3 a3 b3 c6 p6 => ?_⟩
  refine pickI (P := fun x => 0 ≤ x ∧ x ≤ 1000) (by repeat (first | exact Ints.nil | refine Ints.cons (by first | omega | (constructor <;> omega)) ?_)) a3 (by simp; omega) fun mo hmo => ?_
  refine ⟨⟨⟨S, rfl, by omega, by omega, fun l ml => ⟨(hS l ml).1, by have := (hS l ml).2; omega⟩⟩, hw, hwl, by omega, by omega, [S2, List.replicate S.length (List.replicate 101 32)], by rw [hrep]; rfl, by simp, fun G mG => ?_⟩, ?_⟩
  · simp only [List.mem_cons, List.not_mem_nil, or_false] at mG
    rcases mG with rfl | rfl
    · exact ⟨rfl, fun l ml => ⟨(hS2 l ml).1, by have := (hS2 l ml).2; omega⟩⟩
    · exact ⟨rfl, fun l ml => by rw [(List.mem_replicate.mp ml).2]; exact b101 101 (by omega)⟩
  rw [seq_mk]
  subst_eqs
  refine ⟨_, p6, by omega, ⟨by omega, by omega, by omega, by omega⟩, fun S3 hS3l hS3 c7 p7 => ?_⟩
  rw [seq_mk]
  subst_eqs
  refine ⟨_, p7, by omega, ⟨by omega, by omega, by omega, by omega⟩, fun S4 hS4l hS4 c8 p8 => ⟨by omega, by omega, by rw [len_sp1]; decide, ?_⟩⟩
  have et : Str.ofString "\t \t" = SX.S [9, 32, 9] := S_of_tl (by rw [tl_lit]; decide +kernel)
  have e2 : Str.ofString "  " = SX.S [32, 32] := S_of_tl (by rw [tl_lit]; decide +kernel)
  rw [e101, et]
  rw [seq_mk]
  subst_eqs
  refine ⟨_, p8, by omega, ⟨by omega, by omega⟩, fun r8 a8 b8 c9 p9 => ?_⟩
  refine pickM (P := fun d => ∃ ws : List PyData, d = .list ws ∧ Ints (fun w => 1 ≤ w ∧ w ≤ 1000) ws ∧ ws.length ≤ 12) (fun d md => ?_) a8 (by simp; omega) fun d ⟨ws2, e, hw2, hwl2⟩ => ?_
  · simp only [List.mem_cons, List.not_mem_nil, or_false] at md
    rcases md with rfl | rfl
    · exact ⟨_, rfl, (by repeat (first | exact Ints.nil | refine Ints.cons (by first | omega | (constructor <;> omega)) ?_)), by simp⟩
    · exact ⟨_, rfl, (by repeat (first | exact Ints.nil | refine Ints.cons (by first | omega | (constructor <;> omega)) ?_)), by simp⟩
  subst e
  unfold staD
  dsimp only
  refine ⟨⟨⟨S3, rfl, by omega, by omega, fun l ml => ⟨(hS3 l ml).1, by have := (hS3 l ml).2; omega⟩⟩, hw2, hwl2, by omega, by omega, [S4, [[9, 32, 9]], [List.replicate 101 32]], rfl, by simp, fun G mG => ?_⟩, ?_⟩
  · simp only [List.mem_cons, List.not_mem_nil, or_false] at mG
    rcases mG with rfl | rfl | rfl
    · exact ⟨rfl, fun l ml => ⟨(hS4 l ml).1, by have := (hS4 l ml).2; omega⟩⟩
    · refine ⟨rfl, fun l ml => ?_⟩
      rw [List.mem_singleton.mp ml]
      exact ⟨fun c m => by simp at m; omega, by simp⟩
    · exact ⟨rfl, fun l ml => by rw [List.mem_singleton.mp ml]; exact b101 101 (by omega)⟩
  nofun
  rw [e12, e2]
  refine ⟨by omega, by omega, by rw [len_sp1]; decide, ⟨⟨[[32, 32], List.replicate 12 32], rfl, by simp, by simp, fun l ml => ?_⟩, (by repeat (first | exact Ints.nil | refine Ints.cons (by first | omega | (constructor <;> omega)) ?_)), by omega, by omega, [], rfl, by simp, fun G mG => by cases mG⟩, q⟩
  simp only [List.mem_cons, List.not_mem_nil, or_false] at ml
  rcases ml with rfl | rfl
  · exact ⟨fun c m => by simp at m; omega, by simp⟩
  · exact b101 12 (by omega)
omit [TTC] in
theorem law_at {l : PySem.W.OpenLaw} {w : World} {K : Frag} {h : Heap} {mg : Str → Option Value} {q : Program} {fa f_column f__law_pen f__law_draw f__law_column f__law_told f_moved f__law_size f__law_moves f_moves f__law_any f__law_layers f_next_layer f__law_state f_shortest_conversion f__law_right f_law : Addr} (X : K.In h) (G : h.Ns mainGlobals mg) (hfa : mg "law" = some (.ref fa))
    {od_column an_column : Option Addr} {sl_column : Array (Option Value)} {oc_column kV_column dc_column pm_column cd_column ct_column : Value}
    {od__law_pen an__law_pen : Option Addr} {sl__law_pen : Array (Option Value)} {oc__law_pen kV__law_pen dc__law_pen pm__law_pen cd__law_pen ct__law_pen : Value}
    {od__law_draw an__law_draw : Option Addr} {sl__law_draw : Array (Option Value)} {oc__law_draw kV__law_draw dc__law_draw pm__law_draw cd__law_draw ct__law_draw : Value}
    {od__law_column an__law_column : Option Addr} {sl__law_column : Array (Option Value)} {oc__law_column kV__law_column dc__law_column pm__law_column cd__law_column ct__law_column : Value}
    {od__law_told an__law_told : Option Addr} {sl__law_told : Array (Option Value)} {oc__law_told kV__law_told dc__law_told pm__law_told cd__law_told ct__law_told : Value}
    {od_moved an_moved : Option Addr} {sl_moved : Array (Option Value)} {oc_moved kV_moved dc_moved pm_moved cd_moved ct_moved : Value}
    {od__law_size an__law_size : Option Addr} {sl__law_size : Array (Option Value)} {oc__law_size kV__law_size dc__law_size pm__law_size cd__law_size ct__law_size : Value}
    {od__law_moves an__law_moves : Option Addr} {sl__law_moves : Array (Option Value)} {oc__law_moves kV__law_moves dc__law_moves pm__law_moves cd__law_moves ct__law_moves : Value}
    {od_moves an_moves : Option Addr} {sl_moves : Array (Option Value)} {oc_moves kV_moves dc_moves pm_moves cd_moves ct_moves : Value}
    {od__law_any an__law_any : Option Addr} {sl__law_any : Array (Option Value)} {oc__law_any kV__law_any dc__law_any pm__law_any cd__law_any ct__law_any : Value}
    {od__law_layers an__law_layers : Option Addr} {sl__law_layers : Array (Option Value)} {oc__law_layers kV__law_layers dc__law_layers pm__law_layers cd__law_layers ct__law_layers : Value}
    {od_next_layer an_next_layer : Option Addr} {sl_next_layer : Array (Option Value)} {oc_next_layer kV_next_layer dc_next_layer pm_next_layer cd_next_layer ct_next_layer : Value}
    {od__law_state an__law_state : Option Addr} {sl__law_state : Array (Option Value)} {oc__law_state kV__law_state dc__law_state pm__law_state cd__law_state ct__law_state : Value}
    {od_shortest_conversion an_shortest_conversion : Option Addr} {sl_shortest_conversion : Array (Option Value)} {oc_shortest_conversion kV_shortest_conversion dc_shortest_conversion pm_shortest_conversion cd_shortest_conversion ct_shortest_conversion : Value}
    {od__law_right an__law_right : Option Addr} {sl__law_right : Array (Option Value)} {oc__law_right kV__law_right dc__law_right pm__law_right ct__law_right : Value}
    {od_law an_law : Option Addr} {sl_law : Array (Option Value)} {oc_law kV_law dc_law pm_law cd_law ct_law : Value}
    {qc__law_right qp__law_right : Addr}
    {ic__law_right : Value} {id__law_right : Option Addr} {iv__law_right : Array Value} {is__law_right : Array (Option Value)}
    (a_column : PySem.W.nsIn K mainGlobals "column" = some (some (.ref f_column))) (l_column : K.lookup f_column = some ⟨oc_column, od_column, .func (PySem.W.fnOf "column" "column" (defArgs s_column) (defBody s_column) (defScope s_column) .none kV_column dc_column pm_column an_column cd_column ct_column), sl_column⟩) (c_column : PySem.W.codeIn K cd_column "column" = true) (k_column : PySem.W.keepIn K (.ref f_column) = true)
    (a__law_pen : PySem.W.nsIn K mainGlobals "_law_pen" = some (some (.ref f__law_pen))) (l__law_pen : K.lookup f__law_pen = some ⟨oc__law_pen, od__law_pen, .func (PySem.W.fnOf "_law_pen" "_law_pen" (defArgs s__law_pen) (defBody s__law_pen) (defScope s__law_pen) .none kV__law_pen dc__law_pen pm__law_pen an__law_pen cd__law_pen ct__law_pen), sl__law_pen⟩) (c__law_pen : PySem.W.codeIn K cd__law_pen "_law_pen" = true) (k__law_pen : PySem.W.keepIn K (.ref f__law_pen) = true)
    (a__law_draw : PySem.W.nsIn K mainGlobals "_law_draw" = some (some (.ref f__law_draw))) (l__law_draw : K.lookup f__law_draw = some ⟨oc__law_draw, od__law_draw, .func (PySem.W.fnOf "_law_draw" "_law_draw" (defArgs s__law_draw) (defBody s__law_draw) (defScope s__law_draw) .none kV__law_draw dc__law_draw pm__law_draw an__law_draw cd__law_draw ct__law_draw), sl__law_draw⟩) (c__law_draw : PySem.W.codeIn K cd__law_draw "_law_draw" = true) (k__law_draw : PySem.W.keepIn K (.ref f__law_draw) = true)
    (a__law_column : PySem.W.nsIn K mainGlobals "_law_column" = some (some (.ref f__law_column))) (l__law_column : K.lookup f__law_column = some ⟨oc__law_column, od__law_column, .func (PySem.W.fnOf "_law_column" "_law_column" (defArgs s__law_column) (defBody s__law_column) (defScope s__law_column) .none kV__law_column dc__law_column pm__law_column an__law_column cd__law_column ct__law_column), sl__law_column⟩) (c__law_column : PySem.W.codeIn K cd__law_column "_law_column" = true) (k__law_column : PySem.W.keepIn K (.ref f__law_column) = true)
    (a__law_told : PySem.W.nsIn K mainGlobals "_law_told" = some (some (.ref f__law_told))) (l__law_told : K.lookup f__law_told = some ⟨oc__law_told, od__law_told, .func (PySem.W.fnOf "_law_told" "_law_told" (defArgs s__law_told) (defBody s__law_told) (defScope s__law_told) .none kV__law_told dc__law_told pm__law_told an__law_told cd__law_told ct__law_told), sl__law_told⟩) (c__law_told : PySem.W.codeIn K cd__law_told "_law_told" = true) (k__law_told : PySem.W.keepIn K (.ref f__law_told) = true)
    (a_moved : PySem.W.nsIn K mainGlobals "moved" = some (some (.ref f_moved))) (l_moved : K.lookup f_moved = some ⟨oc_moved, od_moved, .func (PySem.W.fnOf "moved" "moved" (defArgs s_moved) (defBody s_moved) (defScope s_moved) .none kV_moved dc_moved pm_moved an_moved cd_moved ct_moved), sl_moved⟩) (c_moved : PySem.W.codeIn K cd_moved "moved" = true) (k_moved : PySem.W.keepIn K (.ref f_moved) = true)
    (a__law_size : PySem.W.nsIn K mainGlobals "_law_size" = some (some (.ref f__law_size))) (l__law_size : K.lookup f__law_size = some ⟨oc__law_size, od__law_size, .func (PySem.W.fnOf "_law_size" "_law_size" (defArgs s__law_size) (defBody s__law_size) (defScope s__law_size) .none kV__law_size dc__law_size pm__law_size an__law_size cd__law_size ct__law_size), sl__law_size⟩) (c__law_size : PySem.W.codeIn K cd__law_size "_law_size" = true) (k__law_size : PySem.W.keepIn K (.ref f__law_size) = true)
    (a__law_moves : PySem.W.nsIn K mainGlobals "_law_moves" = some (some (.ref f__law_moves))) (l__law_moves : K.lookup f__law_moves = some ⟨oc__law_moves, od__law_moves, .func (PySem.W.fnOf "_law_moves" "_law_moves" (defArgs s__law_moves) (defBody s__law_moves) (defScope s__law_moves) .none kV__law_moves dc__law_moves pm__law_moves an__law_moves cd__law_moves ct__law_moves), sl__law_moves⟩) (c__law_moves : PySem.W.codeIn K cd__law_moves "_law_moves" = true) (k__law_moves : PySem.W.keepIn K (.ref f__law_moves) = true)
    (a_moves : PySem.W.nsIn K mainGlobals "moves" = some (some (.ref f_moves))) (l_moves : K.lookup f_moves = some ⟨oc_moves, od_moves, .func (PySem.W.fnOf "moves" "moves" (defArgs s_moves) (defBody s_moves) (defScope s_moves) .none kV_moves dc_moves pm_moves an_moves cd_moves ct_moves), sl_moves⟩) (c_moves : PySem.W.codeIn K cd_moves "moves" = true) (k_moves : PySem.W.keepIn K (.ref f_moves) = true)
    (a__law_any : PySem.W.nsIn K mainGlobals "_law_any" = some (some (.ref f__law_any))) (l__law_any : K.lookup f__law_any = some ⟨oc__law_any, od__law_any, .func (PySem.W.fnOf "_law_any" "_law_any" (defArgs s__law_any) (defBody s__law_any) (defScope s__law_any) .none kV__law_any dc__law_any pm__law_any an__law_any cd__law_any ct__law_any), sl__law_any⟩) (c__law_any : PySem.W.codeIn K cd__law_any "_law_any" = true) (k__law_any : PySem.W.keepIn K (.ref f__law_any) = true)
    (a__law_layers : PySem.W.nsIn K mainGlobals "_law_layers" = some (some (.ref f__law_layers))) (l__law_layers : K.lookup f__law_layers = some ⟨oc__law_layers, od__law_layers, .func (PySem.W.fnOf "_law_layers" "_law_layers" (defArgs s__law_layers) (defBody s__law_layers) (defScope s__law_layers) .none kV__law_layers dc__law_layers pm__law_layers an__law_layers cd__law_layers ct__law_layers), sl__law_layers⟩) (c__law_layers : PySem.W.codeIn K cd__law_layers "_law_layers" = true) (k__law_layers : PySem.W.keepIn K (.ref f__law_layers) = true)
    (a_next_layer : PySem.W.nsIn K mainGlobals "next_layer" = some (some (.ref f_next_layer))) (l_next_layer : K.lookup f_next_layer = some ⟨oc_next_layer, od_next_layer, .func (PySem.W.fnOf "next_layer" "next_layer" (defArgs s_next_layer) (defBody s_next_layer) (defScope s_next_layer) .none kV_next_layer dc_next_layer pm_next_layer an_next_layer cd_next_layer ct_next_layer), sl_next_layer⟩) (c_next_layer : PySem.W.codeIn K cd_next_layer "next_layer" = true) (k_next_layer : PySem.W.keepIn K (.ref f_next_layer) = true)
    (a__law_state : PySem.W.nsIn K mainGlobals "_law_state" = some (some (.ref f__law_state))) (l__law_state : K.lookup f__law_state = some ⟨oc__law_state, od__law_state, .func (PySem.W.fnOf "_law_state" "_law_state" (defArgs s__law_state) (defBody s__law_state) (defScope s__law_state) .none kV__law_state dc__law_state pm__law_state an__law_state cd__law_state ct__law_state), sl__law_state⟩) (c__law_state : PySem.W.codeIn K cd__law_state "_law_state" = true) (k__law_state : PySem.W.keepIn K (.ref f__law_state) = true)
    (a_shortest_conversion : PySem.W.nsIn K mainGlobals "shortest_conversion" = some (some (.ref f_shortest_conversion))) (l_shortest_conversion : K.lookup f_shortest_conversion = some ⟨oc_shortest_conversion, od_shortest_conversion, .func (PySem.W.fnOf "shortest_conversion" "shortest_conversion" (defArgs s_shortest_conversion) (defBody s_shortest_conversion) (defScope s_shortest_conversion) .none kV_shortest_conversion dc_shortest_conversion pm_shortest_conversion an_shortest_conversion cd_shortest_conversion ct_shortest_conversion), sl_shortest_conversion⟩) (c_shortest_conversion : PySem.W.codeIn K cd_shortest_conversion "shortest_conversion" = true) (k_shortest_conversion : PySem.W.keepIn K (.ref f_shortest_conversion) = true)
    (a__law_right : PySem.W.nsIn K mainGlobals "_law_right" = some (some (.ref f__law_right))) (l__law_right : K.lookup f__law_right = some ⟨oc__law_right, od__law_right, .func (PySem.W.fnOf "_law_right" "_law_right" (defArgs s__law_right) (defBody s__law_right) (defScope s__law_right) .none kV__law_right dc__law_right pm__law_right an__law_right (.ref qc__law_right) ct__law_right), sl__law_right⟩) (c__law_right : PySem.W.codeIn K (.ref qc__law_right) "_law_right" = true) (k__law_right : PySem.W.keepIn K (.ref f__law_right) = true)
    (a_law : PySem.W.nsIn K mainGlobals "law" = some (some (.ref f_law))) (l_law : K.lookup f_law = some ⟨oc_law, od_law, .func (PySem.W.fnOf "law" "law" (defArgs s_law) (defBody s_law) (defScope s_law) .none kV_law dc_law pm_law an_law cd_law ct_law), sl_law⟩) (c_law : PySem.W.codeIn K cd_law "law" = true) (k_law : PySem.W.keepIn K (.ref f_law) = true)
    (i__law_right : K.lookup qc__law_right = some ⟨ic__law_right, id__law_right, .fields iv__law_right, is__law_right⟩) (j__law_right : iv__law_right[11]? = some (.ref qp__law_right)) (o__law_right : K.lookup qp__law_right = none) (r__law_right : (recsOf q).any (fun d => d.name == ("_law_right" : Str)) = true)
    (y_shortest_conversion : KwdV K kV_shortest_conversion [("limit", .int 64)])
    (b_abs : PySem.W.nsIn K mainGlobals "abs" = some none)
    (b_divmod : PySem.W.nsIn K mainGlobals "divmod" = some none)
    (b_int : PySem.W.nsIn K mainGlobals "int" = some none)
    (b_isinstance : PySem.W.nsIn K mainGlobals "isinstance" = some none)
    (b_len : PySem.W.nsIn K mainGlobals "len" = some none)
    (b_list : PySem.W.nsIn K mainGlobals "list" = some none)
    (b_max : PySem.W.nsIn K mainGlobals "max" = some none)
    (b_min : PySem.W.nsIn K mainGlobals "min" = some none)
    (b_range : PySem.W.nsIn K mainGlobals "range" = some none)
    (b_repr : PySem.W.nsIn K mainGlobals "repr" = some none)
    (b_sorted : PySem.W.nsIn K mainGlobals "sorted" = some none)
    (b_sum : PySem.W.nsIn K mainGlobals "sum" = some none)
    (b_tuple : PySem.W.nsIn K mainGlobals "tuple" = some none)
    {t_WORDS : Addr} (v_WORDS : PySem.W.nsIn K mainGlobals "WORDS" = some (some (.ref t_WORDS))) (w_WORDS : KwT K t_WORDS [V.str "expand", V.str "collapse"])
    (xr : XRelK K ["TooMany"] ["TooLong", "TooMany", "OverflowError"] ["count"])
    (mk_TooMany : Mk1K K "TooMany" "count")
    {t_MOST_STATES : Tok} (v_MOST_STATES : PySem.W.nsIn K mainGlobals "MOST_STATES" = some (some (.int 400 t_MOST_STATES)))
    : LawAtT l.prog w K CX0 9 63 "_law_script" mg fa q := by
  letI : TTC := ⟨[(qp__law_right, qLam "_law_right")]⟩
  have e := hfa.symm.trans (PySem.W.mg_of X G a_law)
  cases e
  have F_column := fun_mk (st := s_column) l_column c_column k_column
  have B_column := F_column.binds (ps := ["indent", "width"]) fun _ _ _ _ _ _ us hl => match us, hl with | [_, _], _ => rfl
  have F__law_pen := fun_mk (st := s__law_pen) l__law_pen c__law_pen k__law_pen
  have B__law_pen := F__law_pen.binds (ps := ["_law_script"]) fun _ _ _ _ _ _ us hl => match us, hl with | [_], _ => rfl
  have F__law_draw := fun_mk (st := s__law_draw) l__law_draw c__law_draw k__law_draw
  have B__law_draw := F__law_draw.binds (ps := ["_law_pen_here", "_law_many"]) fun _ _ _ _ _ _ us hl => match us, hl with | [_, _], _ => rfl
  have F__law_column := fun_mk (st := s__law_column) l__law_column c__law_column k__law_column
  have B__law_column := F__law_column.binds (ps := ["_law_lead", "_law_wide"]) fun _ _ _ _ _ _ us hl => match us, hl with | [_, _], _ => rfl
  have F__law_told := fun_mk (st := s__law_told) l__law_told c__law_told k__law_told
  have B__law_told := F__law_told.binds (ps := ["_law_ask"]) fun _ _ _ _ _ _ us hl => match us, hl with | [_], _ => rfl
  have F_moved := fun_mk (st := s_moved) l_moved c_moved k_moved
  have B_moved := F_moved.binds (ps := ["state", "word", "width", "limit"]) fun _ _ _ _ _ _ us hl => match us, hl with | [_, _, _, _], _ => rfl
  have F__law_size := fun_mk (st := s__law_size) l__law_size c__law_size k__law_size
  have B__law_size := F__law_size.binds (ps := ["_law_pen_here", "_law_most"]) fun _ _ _ _ _ _ us hl => match us, hl with | [_, _], _ => rfl
  have F__law_moves := fun_mk (st := s__law_moves) l__law_moves c__law_moves k__law_moves
  have B__law_moves := F__law_moves.binds (ps := ["_law_state_here", "_law_wides", "_law_most"]) fun _ _ _ _ _ _ us hl => match us, hl with | [_, _, _], _ => rfl
  have F_moves := fun_mk (st := s_moves) l_moves c_moves k_moves
  have B_moves := F_moves.binds (ps := ["state", "widths", "limit"]) fun _ _ _ _ _ _ us hl => match us, hl with | [_, _, _], _ => rfl
  have F__law_any := fun_mk (st := s__law_any) l__law_any c__law_any k__law_any
  have B__law_any := F__law_any.binds (ps := ["_law_pen_here", "_law_most"]) fun _ _ _ _ _ _ us hl => match us, hl with | [_, _], _ => rfl
  have F__law_layers := fun_mk (st := s__law_layers) l__law_layers c__law_layers k__law_layers
  have B__law_layers := F__law_layers.binds (ps := ["_law_begin", "_law_wides", "_law_most"]) fun _ _ _ _ _ _ us hl => match us, hl with | [_, _, _], _ => rfl
  have F_next_layer := fun_mk (st := s_next_layer) l_next_layer c_next_layer k_next_layer
  have B_next_layer := F_next_layer.binds (ps := ["layer", "found", "widths", "limit"]) fun _ _ _ _ _ _ us hl => match us, hl with | [_, _, _, _], _ => rfl
  have F__law_state := fun_mk (st := s__law_state) l__law_state c__law_state k__law_state
  have B__law_state := F__law_state.binds (ps := ["_law_pen_here", "_law_many", "_law_most"]) fun _ _ _ _ _ _ us hl => match us, hl with | [_, _, _], _ => rfl
  have F_shortest_conversion := fun_mk (st := s_shortest_conversion) l_shortest_conversion c_shortest_conversion k_shortest_conversion
  have B_shortest_conversion : FunD K "shortest_conversion" "shortest_conversion" (defArgs s_shortest_conversion) (defBody s_shortest_conversion) (defScope s_shortest_conversion) [] [("limit", .int 64)] f_shortest_conversion _ := ⟨⟨_, _, .none, _, _, _, _, _, _, _, rfl, l_shortest_conversion, c_shortest_conversion, .inl ⟨rfl, rfl⟩, y_shortest_conversion⟩, k_shortest_conversion⟩
  have F__law_right := fun_mk (st := s__law_right) l__law_right c__law_right k__law_right
  have B__law_right := F__law_right.binds (ps := ["_law_begin", "_law_wides", "_law_most", "_law_aims"]) fun _ _ _ _ _ _ us hl => match us, hl with | [_, _, _, _], _ => rfl
  have F_law := fun_mk (st := s_law) l_law c_law k_law
  have B_law := F_law.binds (ps := ["_law_script"]) fun _ _ _ _ _ _ us hl => match us, hl with | [_], _ => rfl
  have tabs : ∀ p ∈ ([(qc__law_right, qp__law_right, qLam "_law_right")] : List (Addr × Addr × Str)), TabAtK K mg q p := fun p hp => by
    simp only [List.mem_cons, List.not_mem_nil, or_false] at hp
    rcases hp with rfl
    · exact ⟨tabIn_of i__law_right j__law_right, o__law_right, "_law_right", _, _, _, _, _, r__law_right, PySem.W.mg_of X G a__law_right, l__law_right, rfl⟩
  refine ⟨[(qc__law_right, qp__law_right, qLam "_law_right")], penE TTC.tt (kw := False), sp_law, PySem.W.fnOf "law" "law" (defArgs s_law) (defBody s_law) (defScope s_law) .none kV_law dc_law pm_law an_law cd_law ct_law, rfl, tabs, fun s v => .of_eq rfl, sp_ok, fun base _ _ tb => ?_⟩
  have L__law_right : LamAt base mg qc__law_right (qLam "_law_right") := ⟨qp__law_right, tb (qc__law_right, qp__law_right, qLam "_law_right") (by simp), (show (qp__law_right, qLam "_law_right") ∈ [(qp__law_right, qLam "_law_right")] by simp), fun p hp e => by
    have hp : p ∈ [(qp__law_right, qLam "_law_right")] := hp
    simp only [List.mem_cons, List.not_mem_nil, or_false] at hp
    rcases hp with rfl
    · rfl⟩
  exact ok_law ⟨⟨F_shortest_conversion, PySem.W.mg_of X G a_shortest_conversion, B_shortest_conversion⟩, ⟨F_column, PySem.W.mg_of X G a_column, B_column⟩, ⟨F__law_pen, PySem.W.mg_of X G a__law_pen, B__law_pen⟩, ⟨F__law_draw, PySem.W.mg_of X G a__law_draw, B__law_draw⟩, ⟨F__law_column, PySem.W.mg_of X G a__law_column, B__law_column⟩, ⟨F__law_told, PySem.W.mg_of X G a__law_told, B__law_told⟩, ⟨F_moved, PySem.W.mg_of X G a_moved, B_moved⟩, ⟨F__law_size, PySem.W.mg_of X G a__law_size, B__law_size⟩, ⟨F__law_moves, PySem.W.mg_of X G a__law_moves, B__law_moves⟩, ⟨F_moves, PySem.W.mg_of X G a_moves, B_moves⟩, ⟨F__law_any, PySem.W.mg_of X G a__law_any, B__law_any⟩, ⟨F__law_layers, PySem.W.mg_of X G a__law_layers, B__law_layers⟩, ⟨F_next_layer, PySem.W.mg_of X G a_next_layer, B_next_layer⟩, ⟨F__law_state, PySem.W.mg_of X G a__law_state, B__law_state⟩, ⟨⟨⟨_, _, _, _, _, _, _, _, rfl, l__law_right, c__law_right⟩, k__law_right⟩, F__law_right, PySem.W.mg_of X G a__law_right, B__law_right⟩, L__law_right, ⟨F_law, PySem.W.mg_of X G a_law, B_law⟩, PySem.W.mg_none_of X G b_abs, PySem.W.mg_none_of X G b_divmod, PySem.W.mg_none_of X G b_int, PySem.W.mg_none_of X G b_isinstance, PySem.W.mg_none_of X G b_len, PySem.W.mg_none_of X G b_list, PySem.W.mg_none_of X G b_max, PySem.W.mg_none_of X G b_min, PySem.W.mg_none_of X G b_range, PySem.W.mg_none_of X G b_repr, PySem.W.mg_none_of X G b_sorted, PySem.W.mg_none_of X G b_sum, PySem.W.mg_none_of X G b_tuple, ⟨_, PySem.W.mg_of X G v_WORDS, w_WORDS⟩, xr.to X G, mk_TooMany.to X G, ⟨_, PySem.W.mg_of X G v_MOST_STATES⟩⟩
end Lw
open PySem PySem.W PyProof.Rows
local instance : Pz.PenC := Pz.penE [] (kw := False)
set_option maxHeartbeats 0 in
theorem PySem.Challenge.cw_tabprism_k58_never_and_too_many_holds : PySem.Challenge.rw_tabprism_k58_never_and_too_many.Holds := by
  w_on; o_law; k_head; (case hw => w_witness2)
  k_fill
  refine Pz.walkGT (l := PySem.Challenge.rw_tabprism_k58_never_and_too_many) (n := 63) (k := 9) (x := "_law_script") (CX := fun _ => L2.CX0) rfl (by decide) rfl ⟨rfl, by decide, by decide⟩ (fun w h Y => PySem.W.km_in_of Y) ?F (fun _ _ _ _ _ h => h)
  case F =>
    intro w mg fa h KX G hmg
    refine' Lw.law_at KX G hmg ?a_column ?l_column ?c_column ?k_column ?a__law_pen ?l__law_pen ?c__law_pen ?k__law_pen ?a__law_draw ?l__law_draw ?c__law_draw ?k__law_draw ?a__law_column ?l__law_column ?c__law_column ?k__law_column ?a__law_told ?l__law_told ?c__law_told ?k__law_told ?a_moved ?l_moved ?c_moved ?k_moved ?a__law_size ?l__law_size ?c__law_size ?k__law_size ?a__law_moves ?l__law_moves ?c__law_moves ?k__law_moves ?a_moves ?l_moves ?c_moves ?k_moves ?a__law_any ?l__law_any ?c__law_any ?k__law_any ?a__law_layers ?l__law_layers ?c__law_layers ?k__law_layers ?a_next_layer ?l_next_layer ?c_next_layer ?k_next_layer ?a__law_state ?l__law_state ?c__law_state ?k__law_state ?a_shortest_conversion ?l_shortest_conversion ?c_shortest_conversion ?k_shortest_conversion ?a__law_right ?l__law_right ?c__law_right ?k__law_right ?a_law ?l_law ?c_law ?k_law ?i__law_right ?j__law_right ?o__law_right ?r__law_right ?y_shortest_conversion ?b_abs ?b_divmod ?b_int ?b_isinstance ?b_len ?b_list ?b_max ?b_min ?b_range ?b_repr ?b_sorted ?b_sum ?b_tuple ?v_WORDS ?w_WORDS ?xr ?mk_TooMany ?v_MOST_STATES
    (case a_column => k_is); (case l_column => k_is); (case c_column => k_is); (case k_column => k_is); (case a__law_pen => k_is); (case l__law_pen => k_is); (case c__law_pen => k_is); (case k__law_pen => k_is); (case a__law_draw => k_is); (case l__law_draw => k_is); (case c__law_draw => k_is); (case k__law_draw => k_is); (case a__law_column => k_is); (case l__law_column => k_is); (case c__law_column => k_is); (case k__law_column => k_is); (case a__law_told => k_is); (case l__law_told => k_is); (case c__law_told => k_is); (case k__law_told => k_is); (case a_moved => k_is); (case l_moved => k_is); (case c_moved => k_is); (case k_moved => k_is); (case a__law_size => k_is); (case l__law_size => k_is); (case c__law_size => k_is); (case k__law_size => k_is); (case a__law_moves => k_is); (case l__law_moves => k_is); (case c__law_moves => k_is); (case k__law_moves => k_is); (case a_moves => k_is); (case l_moves => k_is); (case c_moves => k_is); (case k_moves => k_is); (case a__law_any => k_is); (case l__law_any => k_is); (case c__law_any => k_is); (case k__law_any => k_is); (case a__law_layers => k_is); (case l__law_layers => k_is); (case c__law_layers => k_is); (case k__law_layers => k_is); (case a_next_layer => k_is); (case l_next_layer => k_is); (case c_next_layer => k_is); (case k_next_layer => k_is); (case a__law_state => k_is); (case l__law_state => k_is); (case c__law_state => k_is); (case k__law_state => k_is); (case a_shortest_conversion => k_is); (case l_shortest_conversion => k_is); (case c_shortest_conversion => k_is); (case k_shortest_conversion => k_is); (case a__law_right => k_is); (case l__law_right => k_is); (case c__law_right => k_is); (case k__law_right => k_is); (case a_law => k_is); (case l_law => k_is); (case c_law => k_is); (case k_law => k_is); (case i__law_right => k_is); (case j__law_right => rfl); (case o__law_right => first | rfl | (with_unfolding_all rfl) | k_is); (case r__law_right => decide +kernel); (case y_shortest_conversion => exact .inr ⟨_, rfl, fun q m => (by simp only [List.mem_cons, List.not_mem_nil, or_false] at m; rcases m with rfl <;> first | exact ⟨_, (by k_is), rfl⟩ | exact ⟨_, (by k_is), ⟨_, rfl⟩⟩)⟩); (case b_abs => k_is); (case b_divmod => k_is); (case b_int => k_is); (case b_isinstance => k_is); (case b_len => k_is); (case b_list => k_is); (case b_max => k_is); (case b_min => k_is); (case b_range => k_is); (case b_repr => k_is); (case b_sorted => k_is); (case b_sum => k_is); (case b_tuple => k_is); (case v_WORDS => k_is); (case w_WORDS => exact ⟨_, _, _, (by k_is), rfl, rfl, by decide, (.cons ⟨_, rfl⟩ (.cons ⟨_, rfl⟩ .nil))⟩); (case xr => exact ⟨(Pz.ac (Pz.own_of (by k_is) ⟨Pz.is_some (by k_is), (by k_is), (by k_is), (by k_is), (by k_is), (by k_is), (by k_is), (by k_is), (by k_is)⟩) Pz.an), (Pz.ac (Pz.rel_of (by k_is) (Pz.ac (Pz.rel_own (by k_is) (by kit_is) (by kts_exm) (by decide +kernel)) (Pz.ac (Pz.rel_own (by k_is) (by kit_is) (by kts_exm) (by decide +kernel)) (Pz.ac (Pz.rel_bi (n := "OverflowError") (by k_is) (by kit_is) (by kts_exm) (by decide +kernel)) Pz.an)))) Pz.an), (Pz.ac (Pz.nm_own (by k_is)) (Pz.ac (Pz.nm_own (by k_is)) (Pz.ac (Pz.nm_bi (n := "OverflowError") (by decide +kernel) (by k_is)) Pz.an))), (Pz.ac (Pz.fld_of (by k_is) (Pz.ac (by k_is) Pz.an)) Pz.an)⟩); (case mk_TooMany => exact ⟨_, _, _, _, _, _, _, (by k_is), PySem.F.excBase_OverflowError, PySem.Xc.init_count PySem.F.store_OverflowError (by decide +kernel), ⟨⟨_, _, _, _, _, _, _, _, _, _, _, _, _, _, _, (by k_is), by decide +kernel⟩, (by k_is), (by k_is), (by k_is), (by k_is), (by k_is), (by k_is), (by k_is), ⟨_, _, _, _, _, _, _, _, _, _, _, _, _, _, (by k_is), (by k_is)⟩⟩⟩); (case v_MOST_STATES => k_is)
