import PyProof.Rows.All
import Wide.All
import OpenK.AllK
import Wide.FinOn
import HandS.NoneIn
import HandS.SetKeys
import HandS.Iter
import KE.KDictLaws
import HandS.IsInst
import KE.KExcIs
import KE.RegKIsAll
import HandS.List
import HandS.Exc
import HandS.Lambda
import HandS.Text
import HandS.Comp
import HandS.TupAny
import HandS.Wide
import HandS.Words
import HandS.WordsExc
import HandS.ExcOwn
import HandS.Conv
import HandS.SortInts
import HandS.RaiseMore
import PyProof.ReprRoads
import HandS.More
import HandS.StrMore
import HandS.Replace
import HandS.Ends
import HandS.EndBits
import HandS.Style
import HandS.Deep
import PyProof.ReprLen
import HandS.Codes
import HandS.Zip
import HandS.Dict
import KE.GoesEnum
import HandS.Defaults
import HandS.Flow
import HandS.WideBits
import KE.DataMinMax
import HandS.SortKw
import PyProof.Rows.SortShellAny
import KE.KRevSl
import OpenK.KTop
import HandS.TryMany
import KE.KTryMore
import KE.KExcInit
import PyProof.ExcBaseAll.OverflowError
import PyProof.ExcBaseAll.IndexError
import PyProof.ExcBaseAll.RuntimeError
import HandS.ExcField
import KE.RegKTryMore
import KE.KDictList
import KE.SortData
import KE.SortKeyHeap
import HandS.EndTab
import PyProof.TabOkSpec
import PyProof.StrReplace2
import HandS.TupSets
import HandS.FStr
import PyProof.FString5
import PyProof.CallStr
import HandS.DictComp
import HandS.ExcInit
import HandS.TupMul
import HandS.DictTup
import HandS.DictSubView
import KE.KDictCopyH
import KE.KDictDisplayH
import HandS.TupLen
import PyProof.DictMoreH
import HandS.TryOnly
import KE.DataMinKey
import PyProof.SumAny
import PyProof.ListOps
import HandS.ReplaceList
import PySem.Challenge.RW_tabprism_k11_parents_and_blocks
set_option Elab.async false
set_option linter.all false
set_option maxRecDepth 100000
set_option maxHeartbeats 2000000
namespace L2
open PySem PySem.Spec PyProof.Rows
def optKind (P : Program) (w : World) : PySem.KeyKind P w (Option Int) where
  is := fun k v => nkIs (k.map Sum.inl) v
  hash := fun k => (noneKind P w).hash (k.map Sum.inl)
  inj := fun v a b ha hb => by
    have e := (noneKind P w).inj v _ _ ha hb
    cases a <;> cases b <;> simp_all
  byValue := fun k v h => (noneKind P w).byValue _ v h
  pyHash := fun {A E s k v Q} hv h => (noneKind P w).pyHash (k := k.map Sum.inl) hv h
  eqBool := fun {A E s a b u v Q} hu hv h => (noneKind P w).eqBool (a := a.map Sum.inl) (b := b.map Sum.inl) hu hv (by
    have e : decide ((a.map Sum.inl : Option Key) = b.map Sum.inl) = decide (a = b) := by
      cases a <;> cases b <;> simp
    rw [e]; exact h)
  «strs» := fun k x t v h => (noneKind P w).«strs» _ x t v h
def oV : Option Int → V
  | none => .non
  | some i => .int i
theorem oV_is {P : Program} {w : World} {k : Option Int} {u : Value} (r : RelV (oV k) u) : (optKind P w).is k u = true := by
  cases k with
  | none => rw [show u = .none from r]; rfl
  | some i => obtain ⟨t, rfl⟩ := (show ∃ t, u = .int i t from r); exact kV_is (P := P) (w := w) (k := .inl i) (show RelV (kV (.inl i)) (.int i t) from ⟨t, rfl⟩)
theorem opt_pairs {P Q : Program} {w v : World} {es : List DictEntry} {vs : List (Option Int × Value)} (h : PySem.Pairs (optKind P w) es vs) : PySem.Pairs (optKind Q v) es vs := by
  induction h with
  | nil => exact .nil
  | cons a b _ ih => exact .cons a b ih
theorem opt_any {P Q : Program} {w v : World} {h : Heap} {a : Addr} {vs : List (Option Int × Value)} (d : h.DictOf (optKind P w) a vs) : h.DictOf (optKind Q v) a vs := by
  obtain ⟨o, es, ep, h1, h2, h3, h4, h5, h6⟩ := d
  refine ⟨o, es, ep, h1, h2, h3, fun e m => ?_, ?_, h6⟩
  · obtain ⟨k, q1, q2⟩ := h4 e m
    refine ⟨k, q1, ?_⟩
    cases k with
    | none => exact q2
    | some i => exact q2
  · exact opt_pairs h5
def NdP (us : List (Option Int × V)) (a : Addr) (h : Heap) : Prop := us.length ≤ sizeLine ∧ (a == sysModules) = false ∧ (∃ o es ep, h.get? a = some o ∧ o.data = .dict es ep) ∧ ∃ vs, KV us vs ∧ ∀ (P : Program) (w : World), h.DictOf (optKind P w) a vs
def NdO (us : List (Option Int × V)) (a : Addr) : HO := .ext (NdP us a)
theorem nd_keep {us : List (Option Int × V)} {a : Addr} {h h' : Heap} (d : NdP us a h) (k : ∀ o, h.get? a = some o → h'.get? a = some o) : NdP us a h' := by
  obtain ⟨z, hd, ⟨o, es, ep, h1, h2⟩, vs, r, q⟩ := d
  refine ⟨z, hd, ⟨o, es, ep, k o h1, h2⟩, vs, r, fun P w => ?_⟩
  obtain ⟨o, es, ep, h1, x⟩ := q P w
  exact ⟨o, es, ep, k o h1, x⟩
theorem nd_new {P : Program} {w : World} {H : Hp} {us : List (Option Int × V)} {a : Addr} {h : Heap} (d : NdP us a h) : ObjOk P w H h a (NdO us a) := by
  obtain ⟨_, _, ⟨o, _, _, ho, _⟩, _⟩ := id d
  exact ⟨d, ⟨o, ho⟩, fun h1 h2 z k => nd_keep z k⟩
theorem nd_of {P : Program} {w : World} {H : Hp} {us : List (Option Int × V)} {a : Addr} {h : Heap} (ok : HOk P w H h) (e : H a = some (NdO us a)) : NdP us a h := (show ObjOk P w H h a (NdO us a) from ok a _ e).1
section
variable {X : Cx}
def tDNewN : TE := fun _ H Q => ∀ p, H p = none → Q (.ref p) (upd H p (NdO [] p))
theorem pe_dnewN {pos : Pos} : PE X (.Dict [] [] pos) tDNewN := ⟨fun pins s σ H Q I h => by
  have n : (s.heap.objs.size == sysModules) = false := beq_eq_false_iff_ne.mpr (Ne.symm (Nat.ne_of_lt I.big))
  exact wpAny_Dict_empty ⟨.ref s.heap.objs.size, _, I.laid (a := s.heap.objs.size) (o := NdO [] s.heap.objs.size) (t' := s.toks) (fun _ _ q => Heap.get?_push_of_some _ q) (Nat.le_refl _) (nd_new ⟨Nat.zero_le _, n, ⟨_, _, _, Heap.get?_push_size _ rfl, rfl⟩, [], .nil, fun P w => Heap.DictOf.new s.heap⟩), rfl, h _ (I.hok.fresh (Nat.le_refl _))⟩⟩
end
section
variable {X : Cx} {pins : List (Addr × Obj)} {σ : St} {H : Hp} {s : Shared} {a : Addr} {u r : Value} {d : V} {k : Option Int} {A : Around} {E : Value → Shared → Prop}
theorem n_setd {us : List (Option Int × V)} {Q : Value → Shared → Prop} (I : Inv X pins σ H s) (e : H a = some (NdO us a)) (ry : RelV (oV k) u) (rd : RelV d r) (hl : us.length < sizeLine)
    (h1 : ∀ v, valV us k = some v → ∀ (w' : Value) (s' : Shared), Inv X pins σ H s' → RelV v w' → Q w' s') (h2 : valV us k = none → ∀ (w' : Value) (s' : Shared), Inv X pins σ (upd H a (NdO (putK us k d) a)) s' → RelV d w' → Q w' s') :
    wpAny (model X.prog X.w) A (call (.builtin "dict.setdefault") [.ref a, u, r]) Q E s := by
  obtain ⟨z, hd, _, vs, rel, dd⟩ := nd_of I.hok e
  have hz : vs.length ≤ sizeLine := by rw [← rel.length]; exact z
  refine call_meetsIn PySem.F.slot_dict_setdefault (dd X.prog X.w).typeIs PySem.F.entry_dict_setdefault (PySem.F.args_dict_setdefault_3 _ _ _) (kt_meets_setdefault (optKind X.prog X.w) a (oV_is ry) hd r) ⟨vs, dd X.prog X.w, hz, fun v hv => ?_, fun hn h' dd' hs => ?_⟩
  · have q := rel.val k
    rw [hv] at q
    cases q0 : valV us k with
    | none => rw [q0] at q; exact (show False from q).elim
    | some v0 => rw [q0] at q; exact h1 v0 q0 _ _ (I.tok _) q
  · have q := rel.val k
    rw [hn] at q
    cases q0 : valV us k with
    | some v0 => rw [q0] at q; exact (show False from q).elim
    | none =>
      have hl2 : (putK us k d).length ≤ sizeLine := Nat.le_trans (length_putK us k d) hl
      have he : ∃ q, h'.get? a = some q := let ⟨q, _, _, hq, _⟩ := dd'; ⟨q, hq⟩
      have hk : ∃ o es ep, h'.get? a = some o ∧ o.data = .dict es ep := let ⟨q, es, ep, hq, _, hd, _⟩ := dd'; ⟨q, es, ep, hq, hd⟩
      exact h2 q0 _ _ (d_write (t' := s.toks + 1) I (by rw [e]; exact True.intro) hs he (nd_new ⟨hl2, hd, hk, _, rel.put k rd, fun P w => opt_any dd'⟩)) rd
end
def tNSetd (td ty tx : TE) : TE := fun σ H Q => td σ H fun x H1 => ∃ a us1, x = .ref a ∧ H1 a = some (NdO us1 a) ∧ ty σ H1 fun y H2 => tx σ H2 fun z H3 => ∃ (us : List (Option Int × V)) (k : Option Int), H3 a = some (NdO us a) ∧ y = oV k ∧ us.length < sizeLine ∧
  (∀ v, valV us k = some v → Q v H3) ∧ (valV us k = none → Q z (upd H3 a (NdO (putK us k z) a)))
section
variable {X : Cx} {o e f : Expr} {td ty tx : TE} {apos cpos : Pos}
theorem pe_nsetd (ho : PE X o td) (he : PE X e ty) (hf : PE X f tx) (m : M2 X o "setdefault" apos e f cpos) : PE X (.Call (.Attribute o "setdefault" apos) [e, f] [] cpos) (tNSetd td ty tx) := by
  refine ⟨fun pins s σ H Q I h => ?_⟩
  refine wpAny_Call_method m.base m.few m.line PySem.F.plainAttrs_dict PySem.F.slot_dict_setdefault PySem.F.type_dict_setdefault (thn (ho.run pins s σ H _ I h) fun u s1 ⟨x, H1, I1, rx, a, us1, ex, d, q1⟩ => ?_)
  subst ex
  obtain rfl : u = Value.ref a := rx
  obtain ⟨_, hd, _, vs, _, dd⟩ := nd_of I1.hok d
  refine ⟨(dd X.prog X.w).typeIs, fun b q => ?_, ?_⟩
  · cases q
    obtain ⟨ob, _, _, g1, g2, _⟩ := dd X.prog X.w
    exact ⟨ob, g1, g2.2.1⟩
  rw [m.trees]
  refine Calls.callWith_builtin rfl (Calls.evalArgs_plain (Calls.spliced_cons (thn (he.run pins s1 σ H1 _ I1 q1) fun iv s2 ⟨y, H2, I2, ry, q2⟩ =>
    Calls.spliced_cons (thn (hf.run pins s2 σ H2 _ I2 q2) fun fv s3 ⟨z, H3, I3, rz, us, k, ea, ey, hl, q3, q4⟩ => Calls.spliced_nil ?_))))
  subst ey
  exact n_setd I3 ea ry rz hl (fun v hv w' s4 I4 rw' => ⟨v, _, I4, rw', q3 v hv⟩) fun hn w' s4 I4 rw' => ⟨z, _, I4, rw', q4 hn⟩
end
end L2
namespace L2
open PySem PySem.Spec PyProof.Rows
theorem opt_vals {P : Program} {w : World} {es : List DictEntry} {us : List (Option Int × V)} {vs : List (Option Int × Value)} (r : KV us vs) (h : PySem.Pairs (optKind P w) es vs) : Vals (us.map (·.2)) (es.map (·.val)) := by
  induction r generalizing es with
  | nil => cases h; exact .nil
  | cons a _ ih =>
    cases h with
    | @cons e0 kv0 es0 kvs0 p1 p2 p3 => exact .cons (show RelV _ e0.val by rw [p2]; exact a.2) (ih p3)
section
variable {X : Cx} {pins : List (Addr × Obj)} {σ : St} {H : Hp} {s : Shared} {d : Addr} {us : List (Option Int × V)}
theorem nd_fix (I : Inv X pins σ H s) (e : H d = some (NdO us d)) : ∃ (o : Obj) (es : Array DictEntry) (ep : Nat), s.heap.get? d = some o ∧ o.ExactDict ∧ o.data = .dict es ep ∧ (d == sysModules) = false ∧ Vals (us.map (·.2)) (es.toList.map (·.val)) ∧ s.TypeIs (.ref d) "dict" ∧ Inv X pins σ (upd H d (.frz o (NdO us d))) s := by
  obtain ⟨z, hd, hk, vs, rel, dd⟩ := nd_of I.hok e
  obtain ⟨o, es, ep, h1, h2, h3, h4, h5, h6⟩ := id (dd X.prog X.w)
  refine ⟨o, es, ep, h1, h2, h3, hd, opt_vals rel h5, (dd X.prog X.w).typeIs, ?_⟩
  exact I.write (x := d) (e := d) (t' := s.toks) (by rw [e]; exact True.intro) (.inl rfl) (fun b u _ q => q) ⟨o, h1⟩ ⟨h1, nd_new ⟨z, hd, hk, vs, rel, dd⟩⟩
end
end L2
namespace L2
open PySem PySem.Spec PyProof.Rows
theorem nd_code {us : List (Option Int × V)} {a c : Addr} {q : Str} (e : NdO us a = HO.ext fun h => ∃ (oc : Obj) (vs : Array Value) (t : Tok), h.get? c = some oc ∧ oc.data = .fields vs ∧ vs[1]? = some (.str q t)) : False := by
  injection e with e
  obtain ⟨ob, hob⟩ : ∃ ob : Obj, ob = { cls := .none, data := .fields #[.none, .str q 0] } := ⟨_, rfl⟩
  have key : ∀ (b : Addr) (o : Obj), (Heap.mk (Array.replicate (c + 1) ob) {}).get? b = some o → o = ob := fun b o h => by
    unfold Heap.get? at h
    split at h
    · cases h
    · obtain ⟨hb, h5⟩ := Array.getElem?_eq_some_iff.mp h
      rw [← h5, Array.getElem_replicate]
  have hc : (Heap.mk (Array.replicate (c + 1) ob) {}).get? c = some ob := by
    unfold Heap.get?
    have h5 : (Array.replicate (c + 1) ob)[c]? = some ob := by rw [Array.getElem?_replicate, if_pos (Nat.lt_succ_self c)]
    dsimp only
    rw [h5, hob]
  have h2 : NdP us a (Heap.mk (Array.replicate (c + 1) ob) {}) := by
    rw [e]
    exact ⟨ob, _, 0, hc, by rw [hob], rfl⟩
  obtain ⟨_, _, ⟨o, es, ep, h1, h3⟩, _⟩ := h2
  rw [key a o h1, hob] at h3
  cases h3
end L2
set_option maxRecDepth 100000
namespace L2
open PySem PySem.Spec PyProof.Rows
structure XcF (K : PySem.W.Frag) (C : Addr) : Prop where
  cl : (PySem.W.clsIn K C).isSome = true
  ga : PySem.W.findIn K (.ref C) "__getattribute__" = some (some (.builtin "BaseException.__getattribute__"))
  gg : PySem.W.findIn K (.ref C) "__getattr__" = some none
  exC : PySem.W.subIn K (.ref C) (.type "BaseException") = some true
  cc : PySem.W.findIn K (.ref C) "__class__" = some (some (.builtin "object.__class__"))
  gt : PySem.W.specialIn K (.builtin "object.__class__") "__get__" = some (some (.builtin "getset_descriptor.__get__"))
  tk : PySem.W.takesIn K (.builtin "object.__class__") = some true
  ob : PySem.W.mroIn K C (.type "object") = some true
  hd : PySem.W.hasDictIn K C = true
def ExcK (K : PySem.W.Frag) (cv : Value) : Prop := ∃ C, cv = .ref C ∧ XcF K C ∧ ∀ T ∈ (["int", "bool", "str", "tuple", "list"] : List String), PySem.W.kitOne K (.ref C) (.type T) = some false
def XuOk (W : Addr → Prop) (H : Hp) (us : List (Str × V)) : Option Addr → Prop
  | none => us = []
  | some dx => ¬ W dx ∧ H dx = some (.xd us)
end L2
set_option maxRecDepth 100000
namespace Pz
open PySem PySem.Spec PyProof.Rows L2
abbrev Frag := PySem.W.Frag
class TabC where
  T : List (Addr × Str)
  /-- whether a tuple of the program's top may stand among the data -/
  kw : Prop := True
abbrev NotTbl (o : HO) : Prop := ∀ ps : Array Value, o ≠ .tbl ps
def TabOk [TabC] (W : Addr → Prop) (H : Hp) : Prop := LamX.Tabs TabC.T H ∧ (∀ b ps, H b = some (.tbl ps) → ∃ p ∈ TabC.T, p.1 = b) ∧
  (∀ p ∈ TabC.T, ∀ ps, H p.1 = some (.tbl ps) → ∀ pos c, codeAmong pos ps.toList = some (.ref c) → ¬ W c) ∧ ∀ b xs, H b = some (.tup xs) → ¬ W b
theorem TabOk.less [TabC] {W W' : Addr → Prop} {H : Hp} (t : TabOk W H) (h : ∀ a, W' a → W a) : TabOk W' H := ⟨t.1, t.2.1, fun p hp ps e pos c hc w => t.2.2.1 p hp ps e pos c hc (h c w), fun b xs e w => t.2.2.2 b xs e (h b w)⟩
inductive Sl where
  | d (x : PyData)
  | o (h : Nat)
  | r (v : V)
  /-- a lambda: its address; what was written when it was made, the objects then -/
  | l (f : Addr) (W : Addr → Prop) (H : Hp)
  /-- a list of ints that is only read (the script) -/
  | f (ns : List Int)
inductive Ct where
  | lst (xs : List PyData)
  /-- a list whose items may be written themselves -/
  | lsS (xs : List Sl)
  | dK (kvs : List (Key × PyData))
  | dT (kvs : List (List Key × PyData))
  | ins (C : Addr) (fs : List (Str × Sl))
  /-- a dict whose keys are None and ints; its values may be written themselves -/
  | dN (kvs : List (Option Int × Sl))
  /-- an exception that was caught: its class, its fields -/
  | exc (c : Str) (fs : List (Str × PyData))
  | dead
def Ct.live : Ct → Prop
  | .dead => False
  | _ => True
def Ct.wr : Ct → Prop
  | .dead => False
  | .exc _ _ => False
  | _ => True
theorem Ct.wr.live : ∀ {c : Ct}, c.wr → c.live
  | .lst _, _ => trivial
  | .lsS _, _ => trivial
  | .dK _, _ => trivial
  | .dT _, _ => trivial
  | .ins _ _, _ => trivial
  | .dN _, _ => trivial
abbrev Sls := List (Option Sl)
abbrev Sto := List Ct
def keyD : Key → PyData
  | .inl i => .int i
  | .inr x => .str x
def kyT (k : List Key) : PyData := .tuple (k.map keyD)
def mkK : PyData × PyData := (.none, .bool false)
def mkT : PyData × PyData := (.none, .bool true)
def mkN : PyData × PyData := (.none, .none)
def oD : Option Int → PyData
  | none => .none
  | some i => .int i
def KwL (K : Frag) (a : Addr) (xs : List V) : Prop := ∃ (o : Obj) (its : Array Value) (n : Nat), K.lookup a = some o ∧ o.cls = .type "list" ∧ o.dict = none ∧ o.data = .seq its n ∧ its.size ≤ sizeLine ∧ Vals xs its.toList
def KwT (K : Frag) (a : Addr) (xs : List V) : Prop := ∃ (o : Obj) (its : Array Value) (n : Nat), K.lookup a = some o ∧ o.cls = .type "tuple" ∧ o.data = .seq its n ∧ its.size ≤ sizeLine ∧ Vals xs its.toList
def ImL (K : Frag) (W : Addr → Prop) (H : Hp) (a : Addr) (xs : List V) : Prop := (Rd H a (.lst xs) ∧ ¬ W a) ∨ KwL K a xs
variable [TabC]
def ImT (K : Frag) (W : Addr → Prop) (H : Hp) (a : Addr) (xs : List V) : Prop := (H a = some (.tup xs) ∧ ¬ W a) ∨ (TabC.kw ∧ KwT K a xs)
theorem ImL.sq {K : Frag} {W : Addr → Prop} {H : Hp} {a : Addr} {xs : List V} (h : ImL K W H a xs) : SqL K H a xs := h.elim (fun q => .inl q.1) .inr
theorem ImT.sq {K : Frag} {W : Addr → Prop} {H : Hp} {a : Addr} {xs : List V} (h : ImT K W H a xs) : SqT K H a xs := h.elim (fun q => .inl (.inl q.1)) fun q => .inr q.2
def ExH (c : Value) (d : Option Addr) (a : Addr) : HO := .ext fun h => ∃ (oe : Obj) (vs : Array Value), h.get? a = some oe ∧ Zc c d oe ∧ oe.data = .fields vs
def ClsV (K : Frag) (x : Str) (c : Value) : Prop := PySem.W.nsIn K mainGlobals x = some (some c)
def excD (c : Str) (fs : List (Str × PyData)) : PyData := .dict ((.none, .str c) :: fs.map fun p => (.str p.1, p.2))
mutual
inductive Im (K : Frag) (W : Addr → Prop) (H : Hp) : V → PyData → Prop
  | non : Im K W H .non .none
  | bl (b : Bool) : Im K W H (.bl b) (.bool b)
  | int (i : Int) : Im K W H (.int i) (.int i)
  | str (x : Str) : Im K W H (.str x) (.str x)
  | lst {a : Addr} {xs : List V} {ds : List PyData} : H a = some (.lst xs) → ¬ W a → ImAll K W H xs ds → Im K W H (.ref a) (.list ds)
  | tup {a : Addr} {xs : List V} {ds : List PyData} : ImT K W H a xs → ImAll K W H xs ds → Im K W H (.ref a) (.tuple ds)
  | dct {a : Addr} {kvs : List (Key × V)} {ds : List PyData} : H a = some (.dK kvs) → ¬ W a → ImAll K W H (kvs.map (·.2)) ds → Im K W H (.ref a) (.dict ((kvs.map fun p => keyD p.1).zip ds))
  | dcl {a : Addr} {o : Obj} {kvs : List (Key × V)} {ds : List PyData} : H a = some (.frz o (.dK kvs)) → ¬ W a → ImAll K W H (kvs.map (·.2)) ds → Im K W H (.ref a) (.dict (mkK :: (kvs.map fun p => keyD p.1).zip ds))
  | dcT {a : Addr} {o : Obj} {kvs : List (List Key × V)} {ds : List PyData} : H a = some (.frz o (.dT kvs)) → ¬ W a → ImAll K W H (kvs.map (·.2)) ds → Im K W H (.ref a) (.dict (mkT :: (kvs.map fun p => kyT p.1).zip ds))
  | dcN {a : Addr} {o : Obj} {kvs : List (Option Int × V)} {ds : List PyData} : H a = some (.frz o (NdO kvs a)) → ¬ W a → ImAll K W H (kvs.map (·.2)) ds → Im K W H (.ref a) (.dict (mkN :: (kvs.map fun p => oD p.1).zip ds))
  | exc {a : Addr} {cv : Value} {d : Option Addr} {c : Str} {us : List (Str × V)} {ds : List PyData} : ClsV K c cv → ExcK K cv → H a = some (ExH cv d a) → ¬ W a → XuOk W H us d → ImAll K W H (us.map (·.2)) ds → Im K W H (.ref a) (.dict ((.none, .str c) :: (us.map fun p => .str p.1).zip ds))
inductive ImAll (K : Frag) (W : Addr → Prop) (H : Hp) : List V → List PyData → Prop
  | nil : ImAll K W H [] []
  | cons {v : V} {vs : List V} {d : PyData} {ds : List PyData} : Im K W H v d → ImAll K W H vs ds → ImAll K W H (v :: vs) (d :: ds)
end
structure Zs where
  φ : List Addr
  st : Sto
  H : Hp
  F : Addr → Prop
def Zs.O (Z : Zs) (a : Addr) : Prop := ∃ (h : Nat) (c : Ct), Z.φ[h]? = some a ∧ Z.st[h]? = some c ∧ c.live
def Zs.W (Z : Zs) (a : Addr) : Prop := Z.O a ∨ Z.F a
abbrev Zs.Im (K : Frag) (Z : Zs) : V → PyData → Prop := Pz.Im K Z.W Z.H
abbrev Zs.ImAll (K : Frag) (Z : Zs) : List V → List PyData → Prop := Pz.ImAll K Z.W Z.H
structure Stay (W W' : Addr → Prop) (H H' : Hp) : Prop where
  f : ∀ b o, H b = some o → ¬ W b → (hn : NotTbl o := by exact fun _ z => nomatch z) → H' b = some o
  g : ∀ b o, H b = some o → ¬ W b → (hn : NotTbl o := by exact fun _ z => nomatch z) → ¬ W' b
theorem Stay.trans {W W1 W2 : Addr → Prop} {H H1 H2 : Hp} (a : Stay W W1 H H1) (b : Stay W1 W2 H1 H2) : Stay W W2 H H2 :=
  ⟨fun x o e n t => b.f x o (a.f x o e n t) (a.g x o e n t) t, fun x o e n t => b.g x o (a.f x o e n t) (a.g x o e n t) t⟩
def Rp (K : Frag) (Z : Zs) (v : V) : Sl → Prop
  | .d x => Z.Im K v x
  | .o h => ∃ (a : Addr) (c : Ct), v = .ref a ∧ Z.φ[h]? = some a ∧ Z.st[h]? = some c ∧ c.live
  | .r u => v = u
  | .l f W H => v = .ref f ∧ Stay W Z.W H Z.H
  | .f ns => ∃ a, v = .ref a ∧ ImL K Z.W Z.H a (ns.map V.int)
inductive RpAll (K : Frag) (Z : Zs) : List V → List Sl → Prop
  | nil : RpAll K Z [] []
  | cons {v vs s ss} : Rp K Z v s → RpAll K Z vs ss → RpAll K Z (v :: vs) (s :: ss)
theorem ClsV.eq {K : Frag} {x : Str} {c c' : Value} (h : ClsV K x c) (h' : ClsV K x c') : c = c' := by
  unfold ClsV at h h'
  rw [h] at h'
  exact Option.some.inj (Option.some.inj h')
def XcOk (K : Frag) (Z : Zs) (fs : List (Str × PyData)) : Option Addr → Prop
  | none => fs = []
  | some dx => ¬ Z.W dx ∧ ∃ us : List (Str × V), Z.H dx = some (.xd us) ∧ us.map (·.1) = fs.map (·.1) ∧ Z.ImAll K (us.map (·.2)) (fs.map (·.2))
def CtOk (K : Frag) (Z : Zs) (a : Addr) : Ct → Prop
  | .lst ds => ∃ vs, Z.H a = some (.lst vs) ∧ Z.ImAll K vs ds
  | .lsS xs => ∃ vs, Z.H a = some (.lst vs) ∧ RpAll K Z vs xs
  | .dK kvs => ∃ us : List (Key × V), Z.H a = some (.dK us) ∧ us.map (·.1) = kvs.map (·.1) ∧ Z.ImAll K (us.map (·.2)) (kvs.map (·.2))
  | .dT kvs => ∃ us : List (List Key × V), Z.H a = some (.dT us) ∧ us.map (·.1) = kvs.map (·.1) ∧ Z.ImAll K (us.map (·.2)) (kvs.map (·.2))
  | .ins C fs => ∃ (dx : Addr) (us : List (Str × V)), Z.H a = some (.ins C dx us) ∧ us.map (·.1) = fs.map (·.1) ∧ RpAll K Z (us.map (·.2)) (fs.map (·.2))
  | .dN kvs => ∃ us : List (Option Int × V), Z.H a = some (NdO us a) ∧ us.map (·.1) = kvs.map (·.1) ∧ RpAll K Z (us.map (·.2)) (kvs.map (·.2))
  | .exc c fs => ∃ cv d, ClsV K c cv ∧ Z.H a = some (ExH cv d a) ∧ XcOk K Z fs d
  | .dead => Z.H a ≠ none
structure Ok (K : Frag) (Z : Zs) : Prop where
  len : Z.φ.length = Z.st.length
  nd : Z.φ.Nodup
  ct : ∀ (h : Nat) (a : Addr) (c : Ct), Z.φ[h]? = some a → Z.st[h]? = some c → CtOk K Z a c
  fo : ∀ a, Z.F a → ∃ o, Z.H a = some o
  fd : ∀ a ∈ Z.φ, ¬ Z.F a
  tb : TabOk Z.W Z.H
structure Le (Z Z' : Zs) : Prop where
  pre : ∃ ψ : List Addr, Z'.φ = Z.φ ++ ψ ∧ ∀ a ∈ ψ, Z.H a = none
  len : Z.st.length = Z.φ.length
  liv : ∀ (h : Nat) (c : Ct), Z.st[h]? = some c → ∃ c', Z'.st[h]? = some c' ∧ (c.live ↔ c'.live)
  frm : ∀ a o, Z.H a = some o → ¬ Z.O a → NotTbl o → Z'.H a = some o
  fgn : Z'.F = Z.F
  dom : ∀ a o, Z.H a = some o → ∃ o', Z'.H a = some o'
theorem ctok_some {K : Frag} {Z : Zs} {a : Addr} {c : Ct} (h : CtOk K Z a c) : ∃ o, Z.H a = some o := by
  cases c with
  | lst ds => obtain ⟨vs, e, _⟩ := h; exact ⟨_, e⟩
  | lsS ds => obtain ⟨vs, e, _⟩ := h; exact ⟨_, e⟩
  | dK ds => obtain ⟨vs, e, _⟩ := h; exact ⟨_, e⟩
  | dT ds => obtain ⟨vs, e, _⟩ := h; exact ⟨_, e⟩
  | ins C fs => obtain ⟨dx, us, e, _⟩ := h; exact ⟨_, e⟩
  | dN kvs => obtain ⟨us, e, _⟩ := h; exact ⟨_, e⟩
  | exc c fs => obtain ⟨cv, d, _, e, _⟩ := h; exact ⟨_, e⟩
  | dead =>
    cases q : Z.H a with
    | none => exact absurd q h
    | some o => exact ⟨o, rfl⟩
theorem Ok.has {K : Frag} {Z : Zs} (ok : Ok K Z) {a : Addr} (h : a ∈ Z.φ) : ∃ o, Z.H a = some o := by
  obtain ⟨i, hi, e⟩ := List.getElem_of_mem h
  have hi2 : i < Z.st.length := by rw [← ok.len]; exact hi
  exact ctok_some (ok.ct i a Z.st[i] (by rw [List.getElem?_eq_getElem hi, e]) (List.getElem?_eq_getElem hi2))
theorem Ok.fresh {K : Frag} {Z : Zs} (ok : Ok K Z) {p : Addr} (h : Z.H p = none) : p ∉ Z.φ := fun m => by
  obtain ⟨o, e⟩ := ok.has m
  rw [h] at e; cases e
theorem Zs.O.mem {Z : Zs} {a : Addr} (h : Z.O a) : a ∈ Z.φ := by
  obtain ⟨i, c, e, _⟩ := h
  exact List.mem_of_getElem? e
theorem Ok.nw {K : Frag} {Z : Zs} (ok : Ok K Z) {p : Addr} (h : Z.H p = none) : ¬ Z.W p := fun w => by
  rcases w with w | w
  · exact ok.fresh h w.mem
  · obtain ⟨o, e⟩ := ok.fo p w
    rw [h] at e; cases e
theorem Le.refl {K : Frag} {Z : Zs} (ok : Ok K Z) : Le Z Z := ⟨⟨[], by simp, fun _ h => by cases h⟩, ok.len.symm, fun h c e => ⟨c, e, Iff.rfl⟩, fun _ _ e _ _ => e, rfl, fun _ o e => ⟨o, e⟩⟩
theorem Le.o {Z Z' : Zs} (l : Le Z Z') {a : Addr} (h : Z'.O a) : Z.O a ∨ Z.H a = none := by
  obtain ⟨i, c', e1, e2, e3⟩ := h
  obtain ⟨ψ, e, hn⟩ := l.pre
  rw [e] at e1
  by_cases hi : i < Z.φ.length
  · rw [List.getElem?_append_left hi] at e1
    have hi2 : i < Z.st.length := by rw [l.len]; exact hi
    obtain ⟨c2, q1, q2⟩ := l.liv i Z.st[i] (List.getElem?_eq_getElem hi2)
    rw [e2] at q1
    cases q1
    exact .inl ⟨i, Z.st[i], e1, List.getElem?_eq_getElem hi2, q2.mpr e3⟩
  · rw [List.getElem?_append_right (by omega)] at e1
    exact .inr (hn a (List.mem_of_getElem? e1))
theorem Le.no {Z Z' : Zs} (l : Le Z Z') {a : Addr} {o : HO} (e : Z.H a = some o) (h : ¬ Z.O a) : ¬ Z'.O a := fun w => by
  rcases l.o w with q | q
  · exact h q
  · rw [e] at q; cases q
theorem Le.nw {Z Z' : Zs} (l : Le Z Z') {a : Addr} {o : HO} (e : Z.H a = some o) (h : ¬ Z.W a) : ¬ Z'.W a := fun w => by
  rcases w with w | w
  · exact l.no e (fun z => h (.inl z)) w
  · rw [l.fgn] at w; exact h (.inr w)
theorem Le.trans {Z Z1 Z2 : Zs} (a : Le Z Z1) (b : Le Z1 Z2) : Le Z Z2 where
  pre := by
    obtain ⟨ψ, e, hn⟩ := a.pre
    obtain ⟨ψ', e', hn'⟩ := b.pre
    refine ⟨ψ ++ ψ', by rw [e', e, List.append_assoc], fun x hx => ?_⟩
    rcases List.mem_append.mp hx with h | h
    · exact hn x h
    · have q := hn' x h
      cases e : Z.H x with
      | none => rfl
      | some o =>
        obtain ⟨o', e'⟩ := a.dom x o e
        rw [e'] at q; cases q
  len := a.len
  liv := fun h c e => by
    obtain ⟨c1, e1, q1⟩ := a.liv h c e
    obtain ⟨c2, e2, q2⟩ := b.liv h c1 e1
    exact ⟨c2, e2, q1.trans q2⟩
  frm := fun x o e h t => b.frm x o (a.frm x o e h t) (a.no e h) t
  fgn := b.fgn.trans a.fgn
  dom := fun x o e => by
    obtain ⟨o1, e1⟩ := a.dom x o e
    exact b.dom x o1 e1
section
variable {K : Frag} {W W' : Addr → Prop} {H H' : Hp}
theorem Stay.rd (s : Stay W W' H H') {a : Addr} {o : HO} (h : Rd H a o) (n : ¬ W a) (hn : NotTbl o := by exact fun _ z => nomatch z) : Rd H' a o ∧ ¬ W' a := by
  rcases h with h | ⟨u, h⟩
  · exact ⟨.inl (s.f _ _ h n hn), s.g _ _ h n hn⟩
  · exact ⟨.inr ⟨u, s.f _ _ h n⟩, s.g _ _ h n⟩
theorem ImL.tr (s : Stay W W' H H') {a : Addr} {xs : List V} (h : ImL K W H a xs) : ImL K W' H' a xs := h.elim (fun q => .inl (s.rd q.1 q.2)) .inr
theorem ImT.tr (s : Stay W W' H H') {a : Addr} {xs : List V} (h : ImT K W H a xs) : ImT K W' H' a xs := h.elim (fun q => .inl ⟨s.f _ _ q.1 q.2, s.g _ _ q.1 q.2⟩) .inr
theorem xu_tr (s : Stay W W' H H') {us : List (Str × V)} : ∀ {d : Option Addr}, XuOk W H us d → XuOk W' H' us d
  | none, h => h
  | some _, ⟨h1, h2⟩ => ⟨s.g _ _ h2 h1, s.f _ _ h2 h1⟩
mutual
theorem Im.tr (s : Stay W W' H H') : ∀ {v : V} {d : PyData}, Im K W H v d → Im K W' H' v d
  | _, _, .non => .non
  | _, _, .bl b => .bl b
  | _, _, .int b => .int b
  | _, _, .str b => .str b
  | _, _, .lst q n r => .lst (s.f _ _ q n) (s.g _ _ q n) (ImAll.tr s r)
  | _, _, .tup q r => .tup (q.tr s) (ImAll.tr s r)
  | _, _, .dct q n r => .dct (s.f _ _ q n) (s.g _ _ q n) (ImAll.tr s r)
  | _, _, .dcl q n r => .dcl (s.f _ _ q n) (s.g _ _ q n) (ImAll.tr s r)
  | _, _, .dcT q n r => .dcT (s.f _ _ q n) (s.g _ _ q n) (ImAll.tr s r)
  | _, _, .dcN q n r => .dcN (s.f _ _ q n) (s.g _ _ q n) (ImAll.tr s r)
  | _, _, .exc c k q n x r => .exc c k (s.f _ _ q n) (s.g _ _ q n) (xu_tr s x) (ImAll.tr s r)
theorem ImAll.tr (s : Stay W W' H H') : ∀ {vs : List V} {ds : List PyData}, ImAll K W H vs ds → ImAll K W' H' vs ds
  | _, _, .nil => .nil
  | _, _, .cons q r => .cons (Im.tr s q) (ImAll.tr s r)
end
theorem ImAll.length : ∀ {vs : List V} {ds : List PyData}, ImAll K W H vs ds → vs.length = ds.length
  | _, _, .nil => rfl
  | _, _, .cons _ r => by rw [List.length_cons, List.length_cons, ImAll.length r]
theorem ImAll.append : ∀ {vs vs' : List V} {ds ds' : List PyData}, ImAll K W H vs ds → ImAll K W H vs' ds' → ImAll K W H (vs ++ vs') (ds ++ ds')
  | _, _, _, _, .nil, s => s
  | _, _, _, _, .cons q r, s => .cons q (ImAll.append r s)
theorem ImAll.get : ∀ {vs : List V} {ds : List PyData} {i : Nat} {v : V}, ImAll K W H vs ds → vs[i]? = some v → ∃ d, ds[i]? = some d ∧ Im K W H v d
  | _, _, 0, _, .cons q _, e => by simp at e; subst e; exact ⟨_, rfl, q⟩
  | _, _, i + 1, v, .cons _ r, e => by simpa using ImAll.get (i := i) (v := v) r (by simpa using e)
theorem ImAll.get' : ∀ {vs : List V} {ds : List PyData} {i : Nat} {d : PyData}, ImAll K W H vs ds → ds[i]? = some d → ∃ v, vs[i]? = some v ∧ Im K W H v d
  | _, _, 0, _, .cons q _, e => by simp at e; subst e; exact ⟨_, rfl, q⟩
  | _, _, i + 1, v, .cons _ r, e => by simpa using ImAll.get' (i := i) (d := v) r (by simpa using e)
theorem ImAll.set {v : V} {d : PyData} (q : Im K W H v d) : ∀ {vs : List V} {ds : List PyData} (i : Nat), ImAll K W H vs ds → ImAll K W H (vs.set i v) (ds.set i d)
  | _, _, _, .nil => .nil
  | _, _, 0, .cons _ t => .cons q t
  | _, _, i + 1, .cons p t => .cons p (ImAll.set q i t)
theorem ImAll.take : ∀ {vs : List V} {ds : List PyData} (n : Nat), ImAll K W H vs ds → ImAll K W H (vs.take n) (ds.take n)
  | _, _, 0, _ => .nil
  | _, _, _ + 1, .nil => .nil
  | _, _, n + 1, .cons r t => .cons r (ImAll.take n t)
theorem ImAll.drop : ∀ {vs : List V} {ds : List PyData} (n : Nat), ImAll K W H vs ds → ImAll K W H (vs.drop n) (ds.drop n)
  | _, _, 0, r => r
  | _, _, _ + 1, .nil => .nil
  | _, _, n + 1, .cons _ t => ImAll.drop n t
theorem ImAll.reverse : ∀ {vs : List V} {ds : List PyData}, ImAll K W H vs ds → ImAll K W H vs.reverse ds.reverse
  | _, _, .nil => .nil
  | _, _, .cons q r => by
    rw [List.reverse_cons, List.reverse_cons]
    exact (ImAll.reverse r).append (.cons q .nil)
mutual
theorem Im.dp : ∀ {v : V} {d : PyData}, Im K W H v d → d.hasDict = false → Dp K H v d
  | _, _, .non, _ => .non
  | _, _, .bl b, _ => .bl b
  | _, _, .int b, _ => .int b
  | _, _, .str b, _ => .str b
  | _, _, .lst q n r, e => .lst (.of q) (ImAll.dp r (by simpa [PyData.hasDict] using e))
  | _, _, .tup q r, e => .tup q.sq (ImAll.dp r (by simpa [PyData.hasDict] using e))
  | _, _, .dct q n r, e => by simp [PyData.hasDict] at e
  | _, _, .dcl q n r, e => by simp [PyData.hasDict] at e
  | _, _, .dcT q n r, e => by simp [PyData.hasDict] at e
  | _, _, .dcN q n r, e => by simp [PyData.hasDict] at e
  | _, _, .exc _ _ _ _ _ _, e => by simp [PyData.hasDict] at e
theorem ImAll.dp : ∀ {vs : List V} {ds : List PyData}, ImAll K W H vs ds → PyData.hasDictAll ds = false → DpAll K H vs ds
  | _, _, .nil, _ => .nil
  | _, _, .cons q r, e => by
    simp only [PyData.hasDictAll, Bool.or_eq_false_iff] at e
    exact .cons (Im.dp q e.1) (ImAll.dp r e.2)
end
end
section
variable {K : Frag} {Z Z' : Zs}
theorem Le.stay (l : Le Z Z') : Stay Z.W Z'.W Z.H Z'.H := ⟨fun b o e n t => l.frm b o e (fun z => n (.inl z)) t, fun _ _ e n _ => l.nw e n⟩
theorem Rp.tr (l : Le Z Z') {v : V} {s : Sl} (h : Rp K Z v s) : Rp K Z' v s := by
  cases s with
  | d x => exact Im.tr l.stay h
  | o i =>
    obtain ⟨a, c, e, e1, e2, e3⟩ := h
    obtain ⟨ψ, q, _⟩ := l.pre
    obtain ⟨c', q1, q2⟩ := l.liv i c e2
    refine ⟨a, c', e, ?_, q1, q2.mp e3⟩
    rw [q, List.getElem?_append_left (List.getElem?_eq_some_iff.mp e1).1]
    exact e1
  | r u => exact h
  | l _ _ _ => exact ⟨h.1, h.2.trans l.stay⟩
  | f ns => obtain ⟨a, e, q⟩ := h; exact ⟨a, e, q.tr l.stay⟩
theorem RpAll.tr (l : Le Z Z') : ∀ {vs : List V} {ss : List Sl}, RpAll K Z vs ss → RpAll K Z' vs ss
  | _, _, .nil => .nil
  | _, _, .cons q r => .cons (q.tr l) (RpAll.tr l r)
theorem RpAll.length : ∀ {vs : List V} {ss : List Sl}, RpAll K Z vs ss → vs.length = ss.length
  | _, _, .nil => rfl
  | _, _, .cons _ r => by rw [List.length_cons, List.length_cons, RpAll.length r]
def Zs.new (Z : Zs) (p : Addr) (o : HO) : Zs := { Z with H := upd Z.H p o }
theorem upd_keep {H : Hp} {p b : Addr} {o u : HO} (n : H p = none) (e : H b = some u) : upd H p o b = some u := by
  rw [upd_ne (ne_of_none e n)]; exact e
theorem Ok.leNew (ok : Ok K Z) {p : Addr} {o : HO} (n : Z.H p = none) : Le Z (Z.new p o) where
  pre := ⟨[], by simp [Zs.new], fun _ h => by cases h⟩
  len := ok.len.symm
  liv := fun h c e => ⟨c, e, Iff.rfl⟩
  frm := fun a u e _ _ => upd_keep n e
  fgn := rfl
  dom := fun a u e => ⟨u, upd_keep n e⟩
theorem XcOk.tr (s : Stay Z.W Z'.W Z.H Z'.H) {fs : List (Str × PyData)} : ∀ {d : Option Addr}, XcOk K Z fs d → XcOk K Z' fs d
  | none, h => h
  | some dx, h => by
    obtain ⟨n, us, e, e2, q⟩ := h
    exact ⟨s.g _ _ e n, us, s.f _ _ e n, e2, ImAll.tr s q⟩
theorem ctok_st (s : Stay Z.W Z'.W Z.H Z'.H) (hr : ∀ {v : V} {x : Sl}, Rp K Z v x → Rp K Z' v x) {a : Addr} (hH : ∀ o, Z.H a = some o → NotTbl o → Z'.H a = some o) (hD : ∀ o, Z.H a = some o → ∃ o', Z'.H a = some o') : ∀ {c : Ct}, CtOk K Z a c → CtOk K Z' a c
  | .lst ds, h => by obtain ⟨vs, e, q⟩ := h; exact ⟨vs, hH _ e (fun _ z => nomatch z), ImAll.tr s q⟩
  | .lsS xs, h => by
    obtain ⟨vs, e, q⟩ := h
    refine ⟨vs, hH _ e (fun _ z => nomatch z), ?_⟩
    have : ∀ {vs : List V} {ss : List Sl}, RpAll K Z vs ss → RpAll K Z' vs ss := by
      intro vs ss r
      induction r with
      | nil => exact .nil
      | cons p _ ih => exact .cons (hr p) ih
    exact this q
  | .dK kvs, h => by obtain ⟨vs, e, e2, q⟩ := h; exact ⟨vs, hH _ e (fun _ z => nomatch z), e2, ImAll.tr s q⟩
  | .dT kvs, h => by obtain ⟨vs, e, e2, q⟩ := h; exact ⟨vs, hH _ e (fun _ z => nomatch z), e2, ImAll.tr s q⟩
  | .ins C fs, h => by
    obtain ⟨dx, us, e, e2, q⟩ := h
    refine ⟨dx, us, hH _ e (fun _ z => nomatch z), e2, ?_⟩
    have : ∀ {vs : List V} {ss : List Sl}, RpAll K Z vs ss → RpAll K Z' vs ss := by
      intro vs ss r
      induction r with
      | nil => exact .nil
      | cons p _ ih => exact .cons (hr p) ih
    exact this q
  | .dN kvs, h => by
    obtain ⟨us, e, e2, q⟩ := h
    refine ⟨us, hH _ e (fun _ z => nomatch z), e2, ?_⟩
    have : ∀ {vs : List V} {ss : List Sl}, RpAll K Z vs ss → RpAll K Z' vs ss := by
      intro vs ss r
      induction r with
      | nil => exact .nil
      | cons p _ ih => exact .cons (hr p) ih
    exact this q
  | .exc c fs, h => by obtain ⟨cv, d, hc, e, q⟩ := h; exact ⟨cv, d, hc, hH _ e (fun _ z => nomatch z), q.tr s⟩
  | .dead, h => fun z => by
    cases q : Z.H a with
    | none => exact h q
    | some o => obtain ⟨o', e'⟩ := hD _ q; rw [e'] at z; cases z
theorem tabs_upd1 {T : List (Addr × Str)} {H : Hp} {a : Addr} {o : HO} (t : LamX.Tabs T H) (h1 : ∀ ps, H a ≠ some (.tbl ps)) (h2 : ∀ c q, H a ≠ some (LamX.CodeO c q)) : LamX.Tabs T (upd H a o) := fun p hp => by
  obtain ⟨ps, e1, e2, e3⟩ := t p hp
  refine ⟨ps, ?_, e2, fun pos cv hc => ?_⟩
  · rw [upd_ne (fun z => h1 ps (by rw [← z]; exact e1))]; exact e1
  · obtain ⟨c, q1, q2⟩ := e3 pos cv hc
    exact ⟨c, q1, by rw [upd_ne (fun z => h2 c _ (by rw [← z]; exact q2))]; exact q2⟩
theorem tabs_upd {W W' : Addr → Prop} {H : Hp} {a : Addr} {o : HO} (t : TabOk W H) (h1 : ∀ ps, H a ≠ some (.tbl ps)) (h2 : ∀ c q, H a ≠ some (LamX.CodeO c q)) (hW : ∀ x, W' x → W x ∨ H x = none) (ho : NotTbl o := by exact fun _ z => nomatch z) (ht : ∀ xs, o = .tup xs → ¬ W' a := by exact fun _ z => nomatch z) : TabOk W' (upd H a o) :=
  ⟨tabs_upd1 t.1 h1 h2, fun b ps e => by
    by_cases hb : b = a
    · subst hb
      rw [upd_same] at e
      exact absurd (Option.some.inj e) (ho ps)
    · rw [upd_ne hb] at e
      exact t.2.1 b ps e, (fun p hp ps e pos c hc w => by
    obtain ⟨us, e1, e2, e3⟩ := t.1 p hp
    have hp1 : p.1 ≠ a := fun z => h1 us (by rw [← z]; exact e1)
    rw [upd_ne hp1, e1] at e
    cases e
    rcases hW c w with z | z
    · exact t.2.2.1 p hp _ e1 pos c hc z
    · obtain ⟨c', q1, q2⟩ := e3 pos _ hc
      cases q1
      rw [z] at q2
      cases q2), fun b xs e w => by
    by_cases hb : b = a
    · subst hb
      rw [upd_same] at e
      exact ht xs (Option.some.inj e) w
    · rw [upd_ne hb] at e
      rcases hW b w with z | z
      · exact t.2.2.2 b xs e z
      · rw [z] at e; cases e⟩
theorem tabs_new {W W' : Addr → Prop} {H : Hp} {a : Addr} {o : HO} (t : TabOk W H) (n : H a = none) (hW : ∀ x, W' x → W x ∨ H x = none) (ho : NotTbl o := by exact fun _ z => nomatch z) (ht : ∀ xs, o = .tup xs → ¬ W' a := by exact fun _ z => nomatch z) : TabOk W' (upd H a o) := tabs_upd t (fun _ z => by rw [n] at z; cases z) (fun _ _ z => by rw [n] at z; cases z) hW ho ht
theorem CtOk.notup {K : Frag} {Z : Zs} {a : Addr} {c : Ct} (h : CtOk K Z a c) (l : c.live) (xs : List V) : Z.H a ≠ some (.tup xs) := fun z => by
  cases c with
  | lst ds => obtain ⟨vs, e, _⟩ := h; rw [e] at z; cases z
  | lsS ds => obtain ⟨vs, e, _⟩ := h; rw [e] at z; cases z
  | dK ds => obtain ⟨vs, e, _⟩ := h; rw [e] at z; cases z
  | dT ds => obtain ⟨vs, e, _⟩ := h; rw [e] at z; cases z
  | ins C fs => obtain ⟨dx, us, e, _⟩ := h; rw [e] at z; cases z
  | dN kvs => obtain ⟨us, e, _⟩ := h; rw [e] at z; cases z
  | exc c fs => obtain ⟨cv, d, _, e, _⟩ := h; rw [e] at z; cases z
  | dead => exact l
theorem Le.w {Z Z' : Zs} (l : Le Z Z') : ∀ x, Z'.W x → Z.W x ∨ Z.H x = none := fun x w => by
  rcases w with w | w
  · exact (l.o w).elim (fun z => .inl (.inl z)) .inr
  · rw [l.fgn] at w; exact .inl (.inr w)
theorem Ok.new (ok : Ok K Z) {p : Addr} {o : HO} (n : Z.H p = none) (ho : NotTbl o := by exact fun _ z => nomatch z) : Ok K (Z.new p o) where
  len := ok.len
  nd := ok.nd
  ct := fun h a c e1 e2 => ctok_st (ok.leNew n).stay (fun q => q.tr (ok.leNew n)) (fun u e _ => upd_keep n e) (fun u e => ⟨u, upd_keep n e⟩) (ok.ct h a c e1 e2)
  fo := fun a h => let ⟨u, e⟩ := ok.fo a h; ⟨u, upd_keep n e⟩
  fd := ok.fd
  tb := tabs_new ok.tb n (ok.leNew (o := o) n).w ho fun _ _ w => ok.nw n w
theorem Ok.rpL (ok : Ok K Z) {p : Addr} {xs : List V} {ds : List PyData} (n : Z.H p = none) (h : Z.ImAll K xs ds) : Rp K (Z.new p (.lst xs)) (.ref p) (.d (.list ds)) :=
  Im.lst upd_same (fun w => ok.nw n w) (ImAll.tr (ok.leNew n).stay h)
theorem Ok.rpT (ok : Ok K Z) {p : Addr} {xs : List V} {ds : List PyData} (n : Z.H p = none) (h : Z.ImAll K xs ds) : Rp K (Z.new p (.tup xs)) (.ref p) (.d (.tuple ds)) :=
  Im.tup (.inl ⟨upd_same, fun w => ok.nw n w⟩) (ImAll.tr (ok.leNew n).stay h)
def vw (st : Sto) : Sl → Option PyData
  | .d x => some x
  | .o h => match st[h]? with
    | some (.lst ds) => some (.list ds)
    | _ => none
  | .r _ => none
  | .l _ _ _ => none
  | .f _ => none
theorem Rp.list (ok : Ok K Z) {v : V} {s : Sl} {ds : List PyData} (h : Rp K Z v s) (e : vw Z.st s = some (.list ds)) : ∃ a xs, v = .ref a ∧ Z.H a = some (.lst xs) ∧ Z.ImAll K xs ds := by
  cases s with
  | d x =>
    simp only [vw, Option.some.injEq] at e
    subst e
    cases h with
    | lst q _ r => exact ⟨_, _, rfl, q, r⟩
  | o i =>
    obtain ⟨a, c, ev, e1, e2, e3⟩ := h
    simp only [vw, e2] at e
    cases c with
    | lst ds' =>
      simp only [Option.some.injEq, PyData.list.injEq] at e
      subst e
      obtain ⟨vs, q, r⟩ := ok.ct i a _ e1 e2
      exact ⟨a, vs, ev, q, r⟩
    | _ => simp at e
  | r u => simp [vw] at e
  | l _ _ _ => simp [vw] at e
  | f ns => simp [vw] at e
theorem Rp.data {v : V} {s : Sl} {x : PyData} (h : Rp K Z v s) (e : vw Z.st s = some x) (n : ∀ ds, x ≠ .list ds) : Z.Im K v x := by
  cases s with
  | d y => simp only [vw, Option.some.injEq] at e; subst e; exact h
  | o i =>
    obtain ⟨a, c, ev, e1, e2, e3⟩ := h
    simp only [vw, e2] at e
    cases c with
    | lst ds' => simp only [Option.some.injEq] at e; exact absurd e.symm (n ds')
    | _ => simp at e
  | r u => simp [vw] at e
  | l _ _ _ => simp [vw] at e
  | f ns => simp [vw] at e
theorem Rp.int {v : V} {s : Sl} {i : Int} (h : Rp K Z v s) (e : vw Z.st s = some (.int i)) : v = .int i := by
  have q := h.data e (fun _ z => nomatch z); cases q; rfl
theorem Rp.str {v : V} {s : Sl} {i : Str} (h : Rp K Z v s) (e : vw Z.st s = some (.str i)) : v = .str i := by
  have q := h.data e (fun _ z => nomatch z); cases q; rfl
theorem Rp.bl {v : V} {s : Sl} {i : Bool} (h : Rp K Z v s) (e : vw Z.st s = some (.bool i)) : v = .bl i := by
  have q := h.data e (fun _ z => nomatch z); cases q; rfl
theorem Rp.non {v : V} {s : Sl} (h : Rp K Z v s) (e : vw Z.st s = some .none) : v = .non := by
  have q := h.data e (fun _ z => nomatch z); cases q; rfl
theorem Rp.tuple {v : V} {s : Sl} {ds : List PyData} (h : Rp K Z v s) (e : vw Z.st s = some (.tuple ds)) : ∃ a xs, v = .ref a ∧ ImT K Z.W Z.H a xs ∧ Z.ImAll K xs ds := by
  have q := h.data e (fun _ z => nomatch z)
  cases q with
  | tup q r => exact ⟨_, _, rfl, q, r⟩
theorem Rp.dp (ok : Ok K Z) {v : V} {s : Sl} {x : PyData} (h : Rp K Z v s) (e : vw Z.st s = some x) (n : x.hasDict = false) : Dp K Z.H v x := by
  cases s with
  | d y => simp only [vw, Option.some.injEq] at e; subst e; exact Im.dp h n
  | o i =>
    obtain ⟨a, c, ev, e1, e2, e3⟩ := id h
    simp only [vw, e2] at e
    cases c with
    | lst ds' =>
      simp only [Option.some.injEq] at e
      subst e
      obtain ⟨vs, q, r⟩ := ok.ct i a _ e1 e2
      subst ev
      exact .lst (.of q) (ImAll.dp r (by simpa [PyData.hasDict] using n))
    | _ => simp at e
  | r u => simp [vw] at e
  | l _ _ _ => simp [vw] at e
  | f ns => simp [vw] at e
end
abbrev DK := Sl → Sto → Prop
abbrev DX := Str → List (Str × PyData) → Sls → Sto → Prop
abbrev DE := DX → Sls → Sto → DK → Prop
abbrev DT := DX → Sls → Sto → (Bool → Sto → Prop) → Prop
abbrev DA := DX → Sls → Sto → (List Sl → Sto → Prop) → Prop
structure DEnds where
  nx : Sls → Sto → Prop
  rt : DK
  ex : DX
  bk : Sls → Sto → Prop := fun _ _ => False
  ct : Sls → Sto → Prop := fun _ _ => False
abbrev DS := DEnds → Sls → Sto → Prop
def nthS : Sls → Nat → Option Sl
  | [], _ => none
  | s :: _, 0 => s
  | _ :: r, i + 1 => nthS r i
theorem nthS_get : ∀ {sl : Sls} {i : Nat} {s : Sl}, nthS sl i = some s → sl[i]? = some (some s)
  | [], _, _, h => by simp [nthS] at h
  | _ :: _, 0, _, h => by simp [nthS] at h; simp [h]
  | _ :: r, i + 1, s, h => by
    rw [List.getElem?_cons_succ]
    exact nthS_get (by simpa [nthS] using h)
structure SlOk (K : Frag) (Z : Zs) (σ : L2.St) (sl : Sls) : Prop where
  len : sl.length = σ.length
  has : ∀ (i : Nat) (s : Sl), sl[i]? = some (some s) → ∃ v, σ[i]? = some (some v) ∧ Rp K Z v s
theorem SlOk.tr {K : Frag} {Z Z' : Zs} {σ : L2.St} {sl : Sls} (l : Le Z Z') (h : SlOk K Z σ sl) : SlOk K Z' σ sl :=
  ⟨h.len, fun i s e => let ⟨v, q, r⟩ := h.has i s e; ⟨v, q, r.tr l⟩⟩
theorem SlOk.set {K : Frag} {Z : Zs} {σ : L2.St} {sl : Sls} (h : SlOk K Z σ sl) (i : Nat) {v : V} {s : Sl} (r : Rp K Z v s) : SlOk K Z (σ.set i (some v)) (sl.set i (some s)) := by
  refine ⟨by simpa using h.len, fun j t e => ?_⟩
  by_cases hj : i = j
  · subst hj
    have hi : i < sl.length := by
      rcases Nat.lt_or_ge i sl.length with q | q
      · exact q
      · rw [List.getElem?_eq_none (by simpa using q)] at e; cases e
    rw [List.getElem?_set_self hi] at e
    cases e
    exact ⟨v, List.getElem?_set_self (by rw [← h.len]; exact hi), r⟩
  · rw [List.getElem?_set_ne hj] at e
    obtain ⟨u, q, r'⟩ := h.has j t e
    exact ⟨u, by rw [List.getElem?_set_ne hj]; exact q, r'⟩
def KOk (K : Frag) (Z : Zs) (Qd : DK) (Q : VK) : Prop := ∀ (Z' : Zs) (v : V) (s : Sl), Le Z Z' → Ok K Z' → Rp K Z' v s → Qd s Z'.st → Q v Z'.H
def KTOk (K : Frag) (Z : Zs) (Qd : Bool → Sto → Prop) (Q : Bool → Hp → Prop) : Prop := ∀ (Z' : Zs) (b : Bool), Le Z Z' → Ok K Z' → Qd b Z'.st → Q b Z'.H
def KAOk (K : Frag) (Z : Zs) (Qd : List Sl → Sto → Prop) (Q : List V → Hp → Prop) : Prop := ∀ (Z' : Zs) (vs : List V) (ss : List Sl), Le Z Z' → Ok K Z' → RpAll K Z' vs ss → Qd ss Z'.st → Q vs Z'.H
abbrev XdOk (K : Frag) (Z : Zs) (fs : List (Str × PyData)) (d : Option Addr) : Prop := XcOk K Z fs d
abbrev WXs := Value → Option Addr → L2.St → Hp → Prop
abbrev W0 : WXs := fun _ _ _ _ => False
def KXOk (K : Frag) (Z : Zs) (Ed : DX) (E : WXs) : Prop := ∀ (Z' : Zs) (σ : L2.St) (sl : Sls) (c : Value) (x : Str) (d : Option Addr) (fs : List (Str × PyData)), Le Z Z' → Ok K Z' → SlOk K Z' σ sl → XdOk K Z' fs d → ClsV K x c → Ed x fs sl Z'.st → E c d σ Z'.H
theorem KXOk.le {K : Frag} {Z Z1 : Zs} {Ed : DX} {E : WXs} (l : Le Z Z1) (h : KXOk K Z Ed E) : KXOk K Z1 Ed E := fun Z' σ sl c x d fs l' => h Z' σ sl c x d fs (l.trans l')
theorem KOk.le {K : Frag} {Z Z1 : Zs} {Qd : DK} {Q : VK} (l : Le Z Z1) (h : KOk K Z Qd Q) : KOk K Z1 Qd Q := fun Z' v s l' => h Z' v s (l.trans l')
def upE (K : Frag) (E : WXs) (τ : DE) : TE := fun σ H Q => ∃ (Z : Zs) (sl : Sls) (Qd : DK) (Ed : DX), Z.H = H ∧ Ok K Z ∧ SlOk K Z σ sl ∧ τ Ed sl Z.st Qd ∧ KOk K Z Qd Q ∧ KXOk K Z Ed E
def upT (K : Frag) (E : WXs) (τ : DT) : TT := fun σ H Q => ∃ (Z : Zs) (sl : Sls) (Qd : Bool → Sto → Prop) (Ed : DX), Z.H = H ∧ Ok K Z ∧ SlOk K Z σ sl ∧ τ Ed sl Z.st Qd ∧ KTOk K Z Qd Q ∧ KXOk K Z Ed E
def upA (K : Frag) (E : WXs) (τ : DA) : TA := fun σ H Q => ∃ (Z : Zs) (sl : Sls) (Qd : List Sl → Sto → Prop) (Ed : DX), Z.H = H ∧ Ok K Z ∧ SlOk K Z σ sl ∧ τ Ed sl Z.st Qd ∧ KAOk K Z Qd Q ∧ KXOk K Z Ed E
structure DEx (X : Cx) (E : WXs) (e : Expr) (τ : DE) : Prop where
  run : PE X e (upE X.K E τ)
structure DTs (X : Cx) (E : WXs) (e : Expr) (τ : DT) : Prop where
  run : PT X e (upT X.K E τ)
structure DWs (X : Cx) (E : WXs) (e : Expr) (τ : DT) : Prop where
  run : PW X e (upT X.K E τ)
structure DAs (X : Cx) (E : WXs) (es : List Expr) (τ : DA) : Prop where
  run : PA X es (upA X.K E τ)
abbrev Kp (Z Z' : Zs) : Prop := Stay Z.W Z'.W Z.H Z'.H
def KXK (K : Frag) (Z0 Zc : Zs) (Ed : DX) (E : WXs) : Prop := ∀ (Z' : Zs) (σ : L2.St) (sl : Sls) (c : Value) (x : Str) (d : Option Addr) (fs : List (Str × PyData)), Le Z0 Z' → Kp Zc Z' → Ok K Z' → SlOk K Z' σ sl → XdOk K Z' fs d → ClsV K x c → Ed x fs sl Z'.st → E c d σ Z'.H
theorem KXK.le {K : Frag} {Z0 Z : Zs} {Ed : DX} {E : WXs} (h : KXK K Z0 Z Ed E) (l : Le Z0 Z) : KXOk K Z Ed E := fun Z' σ sl c x d fs l' => h Z' σ sl c x d fs (l.trans l') l'.stay
theorem KXK.at {K : Frag} {Z0 Zc Z1 : Zs} {Ed : DX} {E : WXs} (h : KXK K Z0 Zc Ed E) (l : Kp Zc Z1) : KXK K Z0 Z1 Ed E := fun Z' σ sl c x d fs l0 l' => h Z' σ sl c x d fs l0 (l.trans l')
structure EndsOk (K : Frag) (E : WXs) (Z0 Zc : Zs) (Dd : DEnds) (D : Ends) : Prop where
  nx : ∀ (Z : Zs) (sl : Sls) (σ : L2.St), Le Z0 Z → Kp Zc Z → Ok K Z → SlOk K Z σ sl → Dd.nx sl Z.st → D.nx σ Z.H
  rt : ∀ (Z : Zs) (v : V) (s : Sl), Le Z0 Z → Ok K Z → Rp K Z v s → Dd.rt s Z.st → D.rt v Z.H
  ex : KXK K Z0 Zc Dd.ex E
  bk : ∀ (Z : Zs) (sl : Sls) (σ : L2.St), Le Z0 Z → Kp Zc Z → Ok K Z → SlOk K Z σ sl → Dd.bk sl Z.st → D.bk σ Z.H
  ct : ∀ (Z : Zs) (sl : Sls) (σ : L2.St), Le Z0 Z → Kp Zc Z → Ok K Z → SlOk K Z σ sl → Dd.ct sl Z.st → D.ct σ Z.H
theorem EndsOk.at {K : Frag} {E : WXs} {Z0 Zc Z1 : Zs} {Dd : DEnds} {D : Ends} (h : EndsOk K E Z0 Zc Dd D) (l : Kp Zc Z1) : EndsOk K E Z0 Z1 Dd D :=
  ⟨fun Z sl σ a b => h.nx Z sl σ a (l.trans b), h.rt, h.ex.at l, fun Z sl σ a b => h.bk Z sl σ a (l.trans b), fun Z sl σ a b => h.ct Z sl σ a (l.trans b)⟩
def upS (K : Frag) (E : WXs) (Z0 : Zs) (τ : DS) : TS := fun D σ H => ∃ (Z : Zs) (sl : Sls) (Dd : DEnds), Z.H = H ∧ Le Z0 Z ∧ Ok K Z ∧ SlOk K Z σ sl ∧ τ Dd sl Z.st ∧ EndsOk K E Z0 Z Dd D
structure DSt (X : Cx) (E : WXs) (Z0 : Zs) (st : Stmt) (τ : DS) : Prop where
  run : PS X st (upS X.K E Z0 τ)
structure DSs (X : Cx) (E : WXs) (Z0 : Zs) (st : List Stmt) (τ : DS) : Prop where
  run : PSs X st (upS X.K E Z0 τ)
section
variable {X : Cx}
theorem peI {e : Expr} {t t' : TE} (h : PE X e t) (i : ∀ σ H Q, t' σ H Q → t σ H Q) : PE X e t' := ⟨fun pins s σ H Q I q => h.run pins s σ H Q I (i σ H Q q)⟩
theorem ptI {e : Expr} {t t' : TT} (h : PT X e t) (i : ∀ σ H Q, t' σ H Q → t σ H Q) : PT X e t' := ⟨fun pins s σ H Q I q => h.run pins s σ H Q I (i σ H Q q)⟩
theorem pwI {e : Expr} {t t' : TT} (h : PW X e t) (i : ∀ σ H Q, t' σ H Q → t σ H Q) : PW X e t' := ⟨fun wh pins s σ H Q I q => h.run wh pins s σ H Q I (i σ H Q q)⟩
theorem paI {e : List Expr} {t t' : TA} (h : PA X e t) (i : ∀ σ H Q, t' σ H Q → t σ H Q) : PA X e t' := ⟨fun po pins s σ H Q I q => h.run po pins s σ H Q I (i σ H Q q)⟩
theorem psI {e : Stmt} {t t' : TS} (h : PS X e t) (i : ∀ D σ H, t' D σ H → t D σ H) : PS X e t' := ⟨fun pins s σ H D I q => h.run pins s σ H D I (i D σ H q)⟩
theorem pssI {e : List Stmt} {t t' : TS} (h : PSs X e t) (i : ∀ D σ H, t' D σ H → t D σ H) : PSs X e t' := ⟨fun pins s σ H D I q => h.run pins s σ H D I (i D σ H q)⟩
end
section
variable {X : Cx} {E : WXs} {Z0 : Zs} {a b c : Expr} {ta tb tc : DE} {pos : Pos}
def wC (s : Sl) : DE := fun _ _ st Q => Q s st
def wVar (i : Nat) : DE := fun _ sl st Q => match nthS sl i with
  | some s => Q s st
  | none => False
theorem de_c {e : Expr} {v : V} {x : PyData} (h : PE X e (tC v)) (r : ∀ (Z : Zs), Z.Im X.K v x) : DEx X E e (wC (.d x)) := ⟨peI h fun σ H Q ⟨Z, sl, Qd, Ed, e, ok, so, w, k, kx⟩ => by
  subst e
  exact k Z v (.d x) (.refl ok) ok (r Z) w⟩
theorem de_int {i j pos} : DEx X E (.Constant (.int i) j pos) (wC (.d (.int i))) := de_c pe_int fun _ => .int i
theorem de_bl {i j pos} : DEx X E (.Constant (.bool i) j pos) (wC (.d (.bool i))) := de_c pe_bl fun _ => .bl i
theorem de_non {j pos} : DEx X E (.Constant .none j pos) (wC (.d .none)) := de_c pe_non fun _ => .non
theorem de_v (i : Nat) {x : Str} (h : PE X (.Name x pos) (tVar i)) : DEx X E (.Name x pos) (wVar i) := ⟨peI h fun σ H Q ⟨Z, sl, Qd, Ed, e, ok, so, w, k, kx⟩ => by
  subst e
  unfold wVar at w
  split at w
  · rename_i s es
    obtain ⟨v, q, r⟩ := so.has i s (nthS_get es)
    exact ⟨v, q, k Z v s (.refl ok) ok r w⟩
  · exact w.elim⟩
def D2 (K : Frag) (r : R2) (f : Sl → Sl → Sto → DK → Prop) : Prop := ∀ (Z : Zs) (v u : V) (s t : Sl) (Qd : DK) (Q : VK), Ok K Z → Rp K Z v s → Rp K Z u t → f s t Z.st Qd → KOk K Z Qd Q → r v u Z.H Q
def wOp (f : Sl → Sl → Sto → DK → Prop) (ta tb : DE) : DE := fun Ed sl st Q => ta Ed sl st fun x st => tb Ed sl st fun y st => f x y st Q
theorem wOp_ok {K : Frag} {r : R2} {f : Sl → Sl → Sto → DK → Prop} (hd : D2 K r f) (σ : L2.St) (H : Hp) (Q : VK) (h : upE K E (wOp f ta tb) σ H Q) : tOp r (upE K E ta) (upE K E tb) σ H Q := by
  obtain ⟨Z, sl, Qd, Ed, e, ok, so, w, k, kx⟩ := h
  refine ⟨Z, sl, _, Ed, e, ok, so, w, fun Z1 v s l1 ok1 r1 w1 => ?_, kx⟩
  refine ⟨Z1, sl, _, Ed, rfl, ok1, so.tr l1, w1, fun Z2 u t l2 ok2 r2 w2 => ?_, kx.le l1⟩
  exact hd Z2 v u s t Qd Q ok2 (r1.tr l2) r2 w2 (k.le (l1.trans l2))
theorem de_op {op : Operator} {r : R2} {f : Sl → Sl → Sto → DK → Prop} (hd : D2 X.K r f) (ho : OpR X (binaryOp op) r) (ha : DEx X E a ta) (hb : DEx X E b tb) : DEx X E (.BinOp a op b pos) (wOp f ta tb) :=
  ⟨peI (pe_op ho ha.run hb.run) (wOp_ok hd)⟩
theorem de_cmp {op : CmpOp} {r : R2} {f : Sl → Sl → Sto → DK → Prop} (hd : D2 X.K r f) (ho : OpR X (compareOp op) r) (ha : DEx X E a ta) (hb : DEx X E b tb) (hm : behindInMarks op b = false) : DEx X E (.Compare a [op] [b] pos) (wOp f ta tb) :=
  ⟨peI (pe_cmpR ho ha.run hb.run hm) (wOp_ok hd)⟩
def wTest (t : DE) : DT := fun Ed sl st Q => t Ed sl st fun s st => match s with
  | .d (.bool b) => Q b st
  | _ => False
theorem dt_cmp {op : CmpOp} {r : R2} {f : Sl → Sl → Sto → DK → Prop} (hd : D2 X.K r f) (ho : OpR X (compareOp op) r) (ha : DEx X E a ta) (hb : DEx X E b tb) (hm : behindInMarks op b = false) : DTs X E (.Compare a [op] [b] pos) (wTest (wOp f ta tb)) :=
  ⟨ptI (pt_cmpR ho ha.run hb.run hm) fun σ H Q h => wOp_ok hd σ H _ (by
    obtain ⟨Z, sl, Qd, Ed, e, ok, so, w, k, kx⟩ := h
    exact ⟨Z, sl, _, Ed, e, ok, so, w, (fun Z1 v s l1 ok1 r1 w1 => by
      simp only at w1
      split at w1
      · cases r1
        exact ⟨_, rfl, k Z1 _ l1 ok1 w1⟩
      · exact w1.elim), kx⟩)⟩
end
end Pz
set_option maxRecDepth 100000
namespace Pz
open PySem PySem.Spec PyProof.Rows L2 TL
variable [TabC]
section
variable {K : Frag} {Z : Zs}
theorem KOk.now {Qd : DK} {Q : VK} (k : KOk K Z Qd Q) (ok : Ok K Z) {v : V} {x : PyData} (r : Z.Im K v x) (q : Qd (.d x) Z.st) : Q v Z.H := k Z v (.d x) (.refl ok) ok r q
theorem KOk.same {Qd : DK} {Q : VK} (k : KOk K Z Qd Q) (ok : Ok K Z) {v : V} {s : Sl} (r : Rp K Z v s) (q : Qd s Z.st) : Q v Z.H := k Z v s (.refl ok) ok r q
theorem KOk.newL {Qd : DK} {Q : VK} (k : KOk K Z Qd Q) (ok : Ok K Z) {xs : List V} {ds : List PyData} (r : Z.ImAll K xs ds) (q : Qd (.d (.list ds)) Z.st) : ∀ p, Z.H p = none → Q (.ref p) (upd Z.H p (.lst xs)) :=
  fun p n => k (Z.new p (.lst xs)) (.ref p) _ (ok.leNew n) (ok.new n) (ok.rpL n r) q
theorem KOk.newT {Qd : DK} {Q : VK} (k : KOk K Z Qd Q) (ok : Ok K Z) {xs : List V} {ds : List PyData} (r : Z.ImAll K xs ds) (q : Qd (.d (.tuple ds)) Z.st) : ∀ p, Z.H p = none → Q (.ref p) (upd Z.H p (.tup xs)) :=
  fun p n => k (Z.new p (.tup xs)) (.ref p) _ (ok.leNew n) (ok.new n) (ok.rpT n r) q
theorem ImAll.nilIff {W : Addr → Prop} {H : Hp} {vs : List V} {ds : List PyData} (h : ImAll K W H vs ds) : vs = [] ↔ ds = [] := by
  cases h <;> simp
end
def oAdd (x y : Sl) (st : Sto) (Q : DK) : Prop := match vw st x, vw st y with
  | some (.int i), some (.int j) => Q (.d (.int (i + j))) st
  | some (.str a), some (.str b) => a.length + b.length ≤ sizeLine ∧ Q (.d (.str (a ++ b))) st
  | some (.list a), some (.list b) => a.length + b.length ≤ sizeLine ∧ Q (.d (.list (a ++ b))) st
  | some (.tuple a), some (.tuple b) => a.length + b.length ≤ sizeLine ∧ Q (.d (.tuple (a ++ b))) st
  | _, _ => False
def rAdd (K : Frag) : R2 := fun x y H Q => rI0 (fun i j => .int (i + j)) x y H Q ∨ (∃ i j, x = .str i ∧ y = .str j ∧ i.length + j.length ≤ sizeLine ∧ Q (.str (i ++ j)) H) ∨ rCat x y H Q ∨ rCatA K x y H Q
theorem op_addR {X : Cx} : OpR X (binaryOp .Add) (rAdd X.K) := op_add.or (op_add_str.or (op_cat.or op_catA))
theorem d2_add {K : Frag} : D2 K (rAdd K) oAdd := by
  intro Z v u s t Qd Q ok r1 r2 w k
  unfold oAdd at w
  split at w
  · rename_i i j e1 e2
    exact .inl ⟨i, j, r1.int e1, r2.int e2, k.now ok (.int _) w⟩
  · rename_i a b e1 e2
    exact .inr (.inl ⟨a, b, r1.str e1, r2.str e2, w.1, k.now ok (.str _) w.2⟩)
  · rename_i a b e1 e2
    obtain ⟨p, xs, rfl, h1, q1⟩ := r1.list ok e1
    obtain ⟨p2, ys, rfl, h2, q2⟩ := r2.list ok e2
    exact .inr (.inr (.inl ⟨p, p2, xs, ys, rfl, rfl, h1, h2, by rw [q1.length, q2.length]; exact w.1, k.newL ok (q1.append q2) w.2⟩))
  · rename_i a b e1 e2
    obtain ⟨p, xs, rfl, h1, q1⟩ := r1.tuple e1
    obtain ⟨p2, ys, rfl, h2, q2⟩ := r2.tuple e2
    refine .inr (.inr (.inr ⟨p, p2, xs, ys, rfl, rfl, h1.sq, h2.sq, by rw [q1.length, q2.length]; exact w.1, fun z => ?_, fun _ z => ?_, fun _ _ => k.newT ok (q1.append q2) w.2⟩))
    · have z' := q1.nilIff.mp z
      subst z'
      exact k.now ok (.tup h2 q2) (by simpa using w.2)
    · have z' := q2.nilIff.mp z
      subst z'
      exact k.now ok (.tup h1 q1) (by simpa using w.2)
  · exact w.elim
def oSub (x y : Sl) (st : Sto) (Q : DK) : Prop := match vw st x, vw st y with
  | some (.int i), some (.int j) => Q (.d (.int (i - j))) st
  | _, _ => False
theorem d2_sub {K : Frag} : D2 K (rI0 fun i j => .int (i - j)) oSub := by
  intro Z v u s t Qd Q ok r1 r2 w k
  unfold oSub at w
  split at w
  · rename_i i j e1 e2
    exact ⟨i, j, r1.int e1, r2.int e2, k.now ok (.int _) w⟩
  · exact w.elim
theorem tl_mul (x : Str) (n : Int) : tl (Txt.mul x n) = (List.replicate n.toNat (tl x)).flatten := by
  unfold Txt.mul
  by_cases h1 : n < 1
  · rw [if_pos h1]
    have : n.toNat = 0 := by omega
    rw [this]
    rfl
  · rw [if_neg h1]
    by_cases h2 : (n == 1 || x.length == 0) = true
    · rw [if_pos h2]
      simp only [Bool.or_eq_true, beq_iff_eq] at h2
      rcases h2 with h2 | h2
      · subst h2
        simp
      · have e : tl x = [] := (len0_tl x).mp h2
        rw [e]
        simp
    · rw [if_neg h2]
      have f : ∀ (k : Nat) (acc : Array Nat), (List.foldl (fun x1 x2 => x1 ++ x2) acc (List.replicate k x.cps)).toList = acc.toList ++ (List.replicate k x.cps.toList).flatten := by
        intro k
        induction k with
        | zero => intro acc; simp
        | succ k ih =>
          intro acc
          rw [List.replicate_succ, List.foldl_cons, ih, List.replicate_succ, List.flatten_cons, Array.toList_append, List.append_assoc]
      have := f n.toNat #[]
      simpa [tl] using this
theorem op_mul_str {X : Cx} : OpR X (binaryOp .Mult) (fun x y H Q => ∃ a n, x = .str a ∧ y = .int n ∧ -(2 ^ 63) ≤ n ∧ n < 2 ^ 63 ∧ a.length * n.toNat ≤ sizeLine ∧ Q (.str (Txt.mul a n)) H) := by
  intro pins s σ H x y v u Q I rx ry h
  obtain ⟨a, n, rfl, rfl, h1, h2, h3, q⟩ := h
  obtain ⟨t, rfl⟩ := rx
  obtain ⟨t', rfl⟩ := ry
  refine SB.mul ⟨?_, fun n1 _ => ?_, fun n1 _ => ?_⟩ fun t' k => ⟨.str _, H, I.tok _, ⟨_, rfl⟩, q⟩
  · have e1 : decide (n < -(2 ^ 63 : Int)) = false := decide_eq_false (by omega)
    have e2 : decide (n ≥ 2 ^ 63) = false := decide_eq_false (by omega)
    rw [e1, e2]; rfl
  · intro z
    have hs : sizeLine = 16777216 := sizeLine_eq
    have hn : (n.toNat : Int) = n := Int.toNat_of_nonneg (by omega)
    have h4 : (a.length : Int) * n ≤ 16777216 := by
      rw [← hn]
      have : ((a.length * n.toNat : Nat) : Int) ≤ 16777216 := by omega
      simpa using this
    have h5 : ((2 ^ 63 - 1) / n + 1) * n ≤ (a.length : Int) * n := Int.mul_le_mul_of_nonneg_right (by omega) (by omega)
    have h6 : n * ((2 ^ 63 - 1) / n) + (2 ^ 63 - 1) % n = (2 ^ 63 - 1 : Int) := Int.mul_ediv_add_emod _ _
    have h7 : (2 ^ 63 - 1 : Int) % n < n := Int.emod_lt_of_pos _ (by omega)
    rw [Int.add_mul, Int.one_mul, Int.mul_comm] at h5
    generalize n * ((2 ^ 63 - 1) / n) = q at h5 h6
    generalize (a.length : Int) * n = m at h4 h5
    generalize (2 ^ 63 - 1 : Int) % n = r at h6 h7
    omega
  · unfold Builtin.Str.tooLong
    exact decide_eq_false (by omega)
def SmallI (i : Int) : Prop := -(2 ^ 64) < i ∧ i < 2 ^ 64
instance {i : Int} : Decidable (SmallI i) := inferInstanceAs (Decidable (_ ∧ _))
def oMul (x y : Sl) (st : Sto) (Q : DK) : Prop := match vw st x, vw st y with
  | some (.int i), some (.int j) => (SmallI i ∨ SmallI j) ∧ Q (.d (.int (i * j))) st
  | some (.list a), some (.int j) => -(2 ^ 63) ≤ j ∧ j < 2 ^ 63 ∧ a.length * j.toNat ≤ sizeLine ∧ Q (.d (.list (List.replicate j.toNat a).flatten)) st
  | some (.str a), some (.int j) => -(2 ^ 63) ≤ j ∧ j < 2 ^ 63 ∧ a.length * j.toNat ≤ sizeLine ∧ Q (.d (.str (Txt.mul a j))) st
  | _, _ => False
def rMul : R2 := fun x y H Q => rI CMul (fun i j => .int (i * j)) x y H Q ∨ rRep x y H Q ∨ ∃ a n, x = .str a ∧ y = .int n ∧ -(2 ^ 63) ≤ n ∧ n < 2 ^ 63 ∧ a.length * n.toNat ≤ sizeLine ∧ Q (.str (Txt.mul a n)) H
theorem op_mulR {X : Cx} : OpR X (binaryOp .Mult) rMul := op_mul.or (op_rep.or op_mul_str)
theorem ImAll.rep {K : Frag} {W : Addr → Prop} {H : Hp} {vs : List V} {ds : List PyData} (h : ImAll K W H vs ds) : ∀ n : Nat, ImAll K W H (List.replicate n vs).flatten (List.replicate n ds).flatten
  | 0 => .nil
  | n + 1 => by
    rw [List.replicate_succ, List.replicate_succ, List.flatten_cons, List.flatten_cons]
    exact h.append (ImAll.rep h n)
theorem d2_mul {K : Frag} : D2 K rMul oMul := by
  intro Z v u s t Qd Q ok r1 r2 w k
  unfold oMul at w
  split at w
  · rename_i i j e1 e2
    exact .inl ⟨i, j, r1.int e1, r2.int e2, w.1, k.now ok (.int _) w.2⟩
  · rename_i a j e1 e2
    obtain ⟨p, xs, rfl, h1, q1⟩ := r1.list ok e1
    obtain ⟨w1, w2, w3, w4⟩ := w
    exact .inr (.inl ⟨p, j, xs, rfl, r2.int e2, h1, w1, w2, by rw [q1.length]; exact w3, k.newL ok (q1.rep _) w4⟩)
  · rename_i a j e1 e2
    obtain ⟨w1, w2, w3, w4⟩ := w
    exact .inr (.inr ⟨a, j, r1.str e1, r2.int e2, w1, w2, w3, k.now ok (.str _) w4⟩)
  · exact w.elim
def oII (C : Int → Int → Prop) (g : Int → Int → PyData) (x y : Sl) (st : Sto) (Q : DK) : Prop := match vw st x, vw st y with
  | some (.int i), some (.int j) => C i j ∧ Q (.d (g i j)) st
  | _, _ => False
theorem d2_ii {K : Frag} {C : Int → Int → Prop} {g : Int → Int → Int} : D2 K (rI C fun i j => .int (g i j)) (oII C fun i j => .int (g i j)) := by
  intro Z v u s t Qd Q ok r1 r2 w k
  unfold oII at w
  split at w
  · rename_i i j e1 e2
    exact ⟨i, j, r1.int e1, r2.int e2, w.1, k.now ok (.int _) w.2⟩
  · exact w.elim
def oFdiv := oII CDivW fun i j => .int (i / j)
def oMod := oII (fun _ j => 0 < j) fun i j => .int (i % j)
def oPow := oII CPow fun i j => .int (i ^ j.toNat)
def oShl := oII CPow fun i j => .int (i * 2 ^ j.toNat)
def oShr := oII (fun _ j => 0 ≤ j) fun i j => .int (i / 2 ^ j.toNat)
theorem d2_fdiv {K : Frag} : D2 K (rI CDivW fun i j => .int (i / j)) oFdiv := d2_ii
theorem d2_mod {K : Frag} : D2 K (rI (fun _ j => 0 < j) fun i j => .int (i % j)) oMod := d2_ii
theorem d2_pow {K : Frag} : D2 K (rI CPow fun i j => .int (i ^ j.toNat)) oPow := d2_ii
def oBool (g : Int → Int → Bool) (x y : Sl) (st : Sto) (Q : DK) : Prop := match vw st x, vw st y with
  | some (.int i), some (.int j) => Q (.d (.bool (g i j))) st
  | _, _ => False
theorem d2_bool {K : Frag} {g : Int → Int → Bool} : D2 K (rI0 fun i j => .bl (g i j)) (oBool g) := by
  intro Z v u s t Qd Q ok r1 r2 w k
  unfold oBool at w
  split at w
  · rename_i i j e1 e2
    exact ⟨i, j, r1.int e1, r2.int e2, k.now ok (.bl _) w⟩
  · exact w.elim
def flatEq (d : PyData) : Prop := SeqAt.shaped d = true
theorem shaped_dict {d : PyData} (h : SeqAt.shaped d = true) : d.hasDict = false := PyData.hasDict_of_canLay d (SeqAt.canLay_of_shaped h)
def oEq (x y : Sl) (st : Sto) (Q : DK) : Prop := match vw st x, vw st y with
  | some a, some b => SeqAt.shaped a = true ∧ SeqAt.shaped b = true ∧ Q (.d (.bool (PyData.eqv a b))) st
  | _, _ => False
def oNe (x y : Sl) (st : Sto) (Q : DK) : Prop := match vw st x, vw st y with
  | some a, some b => SeqAt.shaped a = true ∧ SeqAt.shaped b = true ∧ Q (.d (.bool (!PyData.eqv a b))) st
  | _, _ => False
theorem d2_eq {K : Frag} : D2 K (rEqD K) oEq := by
  intro Z v u s t Qd Q ok r1 r2 w k
  unfold oEq at w
  split at w
  · rename_i a b e1 e2
    exact ⟨a, b, r1.dp ok e1 (shaped_dict w.1), r2.dp ok e2 (shaped_dict w.2.1), w.1, w.2.1, k.now ok (.bl _) w.2.2⟩
  · exact w.elim
theorem d2_ne {K : Frag} : D2 K (rNeD K) oNe := by
  intro Z v u s t Qd Q ok r1 r2 w k
  unfold oNe at w
  split at w
  · rename_i a b e1 e2
    exact ⟨a, b, r1.dp ok e1 (shaped_dict w.1), r2.dp ok e2 (shaped_dict w.2.1), w.1, w.2.1, k.now ok (.bl _) w.2.2⟩
  · exact w.elim
def noneS (st : Sto) : Sl → Option Bool
  | .d .none => some true
  | .d _ => some false
  | .o _ => some false
  | .r u => some (decide (u = .non))
  | .l _ _ _ => none
  | .f _ => some false
def oIsN (x y : Sl) (st : Sto) (Q : DK) : Prop := match noneS st x, y with
  | some b, .d .none => Q (.d (.bool b)) st
  | _, _ => False
def oNotN (x y : Sl) (st : Sto) (Q : DK) : Prop := match noneS st x, y with
  | some b, .d .none => Q (.d (.bool (!b))) st
  | _, _ => False
end Pz
set_option maxRecDepth 100000
namespace Pz
open PySem PySem.Spec PyProof.Rows L2 TL
variable [TabC]
structure FnG (P : Program) (w : World) (K : Frag) (mg : Str → Option Value) (base : Heap) (CX : CXT) (k : Nat) (f : Addr) (fd : FuncData) (ps : List Str) (sp : Sp) : Prop where
  len : ∀ vs H Q E, sp vs H Q E → vs.length = ps.length
  go : ∀ A : Around, A.guards = some [] → Room k A → ∀ outer s H, Env0 P w K mg base A outer s H → ∀ args us, BindsTo s fd args (ps.zip us) → ∀ vs Q E, Vals vs us → sp vs H Q E → codeAny (model P w) A (.call (.ref f) args) (CR CX outer P w H s Q E) s
section
variable {P : Program} {w : World} {K : Frag} {mg : Str → Option Value} {base : Heap} {CX : CXT} {j k : Nat} {f : Addr} {fd : FuncData} {ps N : List Str} {sp sp' : Sp}
theorem FnG.mono (F : FnG P w K mg base CX j f fd ps sp) (h : j ≤ k) : FnG P w K mg base CX k f fd ps sp :=
  ⟨F.len, fun A hg hr => F.go A hg (hr.mono h)⟩
theorem FnG.imp (F : FnG P w K mg base CX k f fd ps sp) (h : ∀ vs H Q E, sp' vs H Q E → sp vs H Q E) : FnG P w K mg base CX k f fd ps sp' :=
  ⟨fun vs H Q E q => F.len vs H Q E (h _ _ _ _ q), fun A hg hr outer s H e args us b vs Q E v q => F.go A hg hr outer s H e args us b vs Q E v (h _ _ _ _ q)⟩
theorem FnG.of {x qual : Str} {st : Stmt} (F : Fun K x qual st f fd) (S : FnScope N ps (defScope st)) (len : ∀ vs H Q E, sp vs H Q E → vs.length = ps.length)
    (body : ∀ (cdv : Value) (A : Around) (outer : List Env) (s : Shared) (H : Hp) (vs : List V) (Q : VK) (E : XK), A.guards = some [] → Room k (A.deeper (envOfC qual (defScope st) s.heap.objs.size f cdv)) → sp vs H Q E →
      ∃ t, PSs (cxOf CX P w K mg base N qual (defScope st) f cdv A outer s H E) (defBody st) t ∧ t { nx := fun _ H' => Q .non H', rt := Q } (start N vs) H) :
    FnG P w K mg base CX (k + 1) f fd ps sp := by
  obtain ⟨oc, od, kV, doc, pm, an, cdv, ct, osl, rfl, lk, hcd⟩ := F.ex
  refine ⟨len, fun A hg hr outer s H e0 args us hb vs Q E rv q => ?_⟩
  have inK : K.In s.heap := e0.mod.kin.keeps fun b o e => (e0.bs b o e).1
  have par : ∀ y ∈ ps.zip us, (defScope st).names.lookup y.1 = some .local ∨ ((defScope st).names.lookup y.1 = some .cell ∧ ((cellsFrom (s.heap.objs.size + 1) (defScope st).names []).lookup y.1).isSome = true) := by
    rintro ⟨n, u⟩ hy
    rcases S.par n (List.of_mem_zip hy).1 with z | z
    · exact .inl z
    · exact .inr ⟨z, PySem.W.cellsFrom_some _ _ _ (.inl z)⟩
  apply codeAny_call_function hr.depth (inK _ _ lk) rfl S.co S.gen rfl (PySem.W.codeRec_of inK hcd) (hb _ _ _ _ _)
  apply wpAny_newFunctionEnv_cells S.kind par
  rintro env rfl s1 x
  refine ⟨(e0.mod.nolimit.keeps fun b o e => (e0.bs b o e).1).keeps x.toInCall.keep, codeAny_func ?_⟩
  obtain ⟨t, ht, hq⟩ := body cdv A outer s H vs Q E hg (hr.deeper _) q
  have I := inv_start (CX := CX) (E := E) S hr.hd e0 (len _ _ _ _ q) rv x
  refine wpAny_mono (ht.run [] s1 (start N vs) H _ I hq) ?_ fun e s' z => z
  rintro (_ | _ | _ | u) s' z
  · obtain ⟨σ', H', J, z⟩ := z
    exact ⟨.non, H', J.os, J.bare, J.base, J.hok, rfl, z⟩
  · obtain ⟨_, _, _, z⟩ := z
    exact z.elim
  · obtain ⟨_, _, _, z⟩ := z
    exact z.elim
  · obtain ⟨v, σ', H', J, r, z⟩ := z
    exact ⟨v, H', J.os, J.bare, J.base, J.hok, r, z⟩
end
abbrev DXF := Str → List (Str × PyData) → Sto → Prop
abbrev DSp := List Sl → Sto → DK → DXF → Prop
def KXF (K : Frag) (Z : Zs) (Ed : DXF) (E : XK) : Prop := ∀ (Z' : Zs) (c : Value) (x : Str) (d : Option Addr) (fs : List (Str × PyData)), Le Z Z' → Ok K Z' → XdOk K Z' fs d → ClsV K x c → Ed x fs Z'.st → E c d Z'.H
def toSp (K : Frag) (n : Nat) (dsp : DSp) : Sp := fun vs H Q E => ∃ (Z : Zs) (ss : List Sl) (Qd : DK) (Ed : DXF), Z.H = H ∧ Ok K Z ∧ RpAll K Z vs ss ∧ ss.length = n ∧ dsp ss Z.st Qd Ed ∧ KOk K Z Qd Q ∧ KXF K Z Ed E
abbrev FnD (P : Program) (w : World) (K : Frag) (mg : Str → Option Value) (base : Heap) (CX : CXT) (k : Nat) (f : Addr) (fd : FuncData) (ps : List Str) (dsp : DSp) : Prop := FnG P w K mg base CX k f fd ps (toSp K ps.length dsp)
def SlIn (n : Nat) : Sl → Prop
  | .o h => h < n
  | _ => True
def Cl (n : Nat) : Ct → Prop
  | .ins _ fs => ∀ p ∈ fs, SlIn n p.2
  | .lsS xs => ∀ x ∈ xs, SlIn n x
  | .dN kvs => ∀ p ∈ kvs, SlIn n p.2
  | _ => True
def Ret (n : Nat) (s : Sl) (st : Sto) (Q : DK) : Prop := (∀ c ∈ st.take n, Cl n c) ∧ match s with
  | .o h => if h < n then Q (.o h) (st.take n) else match st[h]? with
    | some c => c.live ∧ Cl n c ∧ Q (.o n) (st.take n ++ [c])
    | none => False
  | s => Q s (st.take n)
section
variable {K : Frag} {Z Z' : Zs}
theorem Stay.less {W W' : Addr → Prop} {H : Hp} (h : ∀ a, W' a → W a) : Stay W W' H H := ⟨fun _ _ e _ _ => e, fun _ _ _ n _ w => n (h _ w)⟩
theorem rp_less {n : Nat} (hF : Z'.F = Z.F) (hH : Z'.H = Z.H) (hW : ∀ a, Z'.W a → Z.W a) (hφ : ∀ i, i < n → Z'.φ[i]? = Z.φ[i]?) (hst : ∀ i, i < n → Z'.st[i]? = Z.st[i]?) {v : V} {s : Sl} (hs : SlIn n s) (r : Rp K Z v s) : Rp K Z' v s := by
  cases s with
  | d x =>
    have q := Im.tr (Stay.less hW) (show Pz.Im K Z.W Z.H v x from r)
    rw [← hH] at q
    exact q
  | o h =>
    obtain ⟨a, c, e, e1, e2, e3⟩ := r
    exact ⟨a, c, e, by rw [hφ h hs]; exact e1, by rw [hst h hs]; exact e2, e3⟩
  | r u => exact r
  | l _ _ _ => exact ⟨r.1, by rw [hH]; exact r.2.trans (Stay.less hW)⟩
  | f ns =>
    obtain ⟨a, e, q⟩ := r
    have q' := q.tr (Stay.less hW)
    rw [← hH] at q'
    exact ⟨a, e, q'⟩
theorem rpAll_less {n : Nat} (hF : Z'.F = Z.F) (hH : Z'.H = Z.H) (hW : ∀ a, Z'.W a → Z.W a) (hφ : ∀ i, i < n → Z'.φ[i]? = Z.φ[i]?) (hst : ∀ i, i < n → Z'.st[i]? = Z.st[i]?) : ∀ {vs : List V} {ss : List Sl}, (∀ s ∈ ss, SlIn n s) → RpAll K Z vs ss → RpAll K Z' vs ss
  | _, _, _, .nil => .nil
  | _, _, hs, .cons p r => .cons (rp_less hF hH hW hφ hst (hs _ (by simp)) p) (rpAll_less hF hH hW hφ hst (fun s m => hs s (by simp [m])) r)
theorem ct_less {n : Nat} (hF : Z'.F = Z.F) (hH : Z'.H = Z.H) (hW : ∀ a, Z'.W a → Z.W a) (hφ : ∀ i, i < n → Z'.φ[i]? = Z.φ[i]?) (hst : ∀ i, i < n → Z'.st[i]? = Z.st[i]?) {a : Addr} : ∀ {c : Ct}, Cl n c → CtOk K Z a c → CtOk K Z' a c
  | .lst ds, _, h => by
    obtain ⟨vs, e, q⟩ := h
    have q' := ImAll.tr (Stay.less hW) (show Pz.ImAll K Z.W Z.H vs ds from q)
    rw [← hH] at e q'
    exact ⟨vs, e, q'⟩
  | .lsS xs, hc, h => by
    obtain ⟨us, e, q⟩ := h
    rw [← hH] at e
    exact ⟨us, e, rpAll_less hF hH hW hφ hst hc q⟩
  | .dK kvs, _, h => by
    obtain ⟨vs, e, e2, q⟩ := h
    have q' := ImAll.tr (Stay.less hW) (show Pz.ImAll K Z.W Z.H _ _ from q)
    rw [← hH] at e q'
    exact ⟨vs, e, e2, q'⟩
  | .dT kvs, _, h => by
    obtain ⟨vs, e, e2, q⟩ := h
    have q' := ImAll.tr (Stay.less hW) (show Pz.ImAll K Z.W Z.H _ _ from q)
    rw [← hH] at e q'
    exact ⟨vs, e, e2, q'⟩
  | .dN fs, hc, h => by
    obtain ⟨us, e, e2, q⟩ := h
    rw [← hH] at e
    refine ⟨us, e, e2, rpAll_less hF hH hW hφ hst (fun s m => ?_) q⟩
    obtain ⟨p, hp, rfl⟩ := List.mem_map.mp m
    exact hc p hp
  | .ins C fs, hc, h => by
    obtain ⟨dx, us, e, e2, q⟩ := h
    rw [← hH] at e
    refine ⟨dx, us, e, e2, rpAll_less hF hH hW hφ hst (fun s m => ?_) q⟩
    obtain ⟨p, hp, rfl⟩ := List.mem_map.mp m
    exact hc p hp
  | .exc c fs, _, h => by
    obtain ⟨cv, d, hc, e, q⟩ := h
    have s : Stay Z.W Z'.W Z.H Z'.H := by rw [hH]; exact Stay.less hW
    rw [← hH] at e
    exact ⟨cv, d, hc, e, q.tr s⟩
  | .dead, _, h => by
    show Z'.H a ≠ none
    rw [hH]
    exact h
theorem take_get {α : Type} {l : List α} {n i : Nat} (h : i < n) : (l.take n)[i]? = l[i]? := by
  rw [List.getElem?_take, if_pos h]
theorem ret_ok {Z0 : Zs} {n : Nat} {v : V} {s : Sl} {Qd : DK} {Q : VK} (hn : Z0.st.length = n) (l : Le Z0 Z) (ok : Ok K Z) (r : Rp K Z v s) (h : Ret n s Z.st Qd) (k : KOk K Z0 Qd Q) : Q v Z.H := by
  obtain ⟨hc, h⟩ := h
  obtain ⟨ψ, eφ, hψ⟩ := l.pre
  have n0 : Z0.φ.length = n := by rw [← l.len]; exact hn
  have nle : n ≤ Z.φ.length := by rw [eφ, List.length_append]; omega
  have nle2 : n ≤ Z.st.length := by rw [← ok.len]; exact nle
  have tφ : Z.φ.take n = Z0.φ := by rw [eφ, ← n0, List.take_left]
  have wless : ∀ {φ' : List Addr} {st' : Sto}, (∀ i c, φ'[i]? = some c → ∀ ct : Ct, st'[i]? = some ct → ct.live → Z.O c) → ∀ a, (Zs.mk φ' st' Z.H Z.F).W a → Z.W a := fun {φ' st'} hh a w => by
    rcases w with ⟨i, c, e1, e2, e3⟩ | w
    · exact .inl (hh i a e1 c e2 e3)
    · exact .inr w
  have plain : ∀ s', SlIn n s' → Rp K Z v s' → Qd s' (Z.st.take n) → Q v Z.H := fun s' hs r' q => by
    have hW : ∀ a, (Zs.mk (Z.φ.take n) (Z.st.take n) Z.H Z.F).W a → Z.W a := wless fun i a e1 c e2 e3 => by
      have hi : i < n := by
        have := (List.getElem?_eq_some_iff.mp e1).1
        rw [List.length_take] at this
        omega
      rw [take_get hi] at e1 e2
      exact ⟨i, c, e1, e2, e3⟩
    refine k (Zs.mk (Z.φ.take n) (Z.st.take n) Z.H Z.F) v s' ⟨⟨[], by rw [List.append_nil]; exact tφ, fun _ h => by cases h⟩, l.len, fun i c e => ?_, l.frm, l.fgn, l.dom⟩ ⟨?_, ?_, fun i a c e1 e2 => ?_, ok.fo, fun a m => ok.fd a (List.mem_of_mem_take m), ok.tb.less hW⟩ ?_ q
    · obtain ⟨c', q1, q2⟩ := l.liv i c e
      have hi : i < n := by rw [← hn]; exact (List.getElem?_eq_some_iff.mp e).1
      exact ⟨c', by show (Z.st.take n)[i]? = _; rw [take_get hi]; exact q1, q2⟩
    · show (Z.φ.take n).length = (Z.st.take n).length
      rw [List.length_take, List.length_take, ok.len]
    · exact ok.nd.sublist (List.take_sublist _ _)
    · have hi : i < n := by
        have := (List.getElem?_eq_some_iff.mp (show (Z.φ.take n)[i]? = some a from e1)).1
        rw [List.length_take] at this
        omega
      have e2' : (Z.st.take n)[i]? = some c := e2
      have m : c ∈ Z.st.take n := List.mem_of_getElem? e2'
      have e1' : (Z.φ.take n)[i]? = some a := e1
      rw [take_get hi] at e1' e2'
      exact ct_less (Z := Z) (Z' := ⟨Z.φ.take n, Z.st.take n, Z.H, Z.F⟩) (n := n) rfl rfl hW (fun j hj => take_get (l := Z.φ) hj) (fun j hj => take_get (l := Z.st) hj) (hc c m) (ok.ct i a c e1' e2')
    · exact rp_less (Z := Z) (Z' := ⟨Z.φ.take n, Z.st.take n, Z.H, Z.F⟩) (n := n) rfl rfl hW (fun j hj => take_get (l := Z.φ) hj) (fun j hj => take_get (l := Z.st) hj) hs r'
  cases s with
  | d x => exact plain (.d x) trivial r h
  | r u => exact plain (.r u) trivial r h
  | l a b c => exact plain (.l a b c) trivial r h
  | f ns => exact plain (.f ns) trivial r h
  | o hh =>
    simp only at h
    split at h
    · rename_i hlt
      exact plain (.o hh) hlt r h
    · rename_i hlt
      split at h
      · rename_i c ec
        obtain ⟨lv, hcl, q⟩ := h
        obtain ⟨a, c', ev, e1, e2, e3⟩ := id r
        rw [ec] at e2
        cases e2
        have ha : a ∈ ψ := by
          rw [eφ, List.getElem?_append_right (by omega)] at e1
          exact List.mem_of_getElem? e1
        have ht : (Z.st.take n).length = n := by rw [List.length_take]; omega
        have htφ : (Z.φ.take n).length = n := by rw [List.length_take]; omega
        have gφ : ∀ i b, (Z.φ.take n ++ [a])[i]? = some b → (i < n ∧ Z.φ[i]? = some b) ∨ (i = n ∧ b = a) := fun i b e => by
          by_cases hi : i < n
          · rw [List.getElem?_append_left (by omega), take_get hi] at e
            exact .inl ⟨hi, e⟩
          · rw [List.getElem?_append_right (by omega), htφ] at e
            have : i - n = 0 := by
              have := (List.getElem?_eq_some_iff.mp e).1
              simp at this
              omega
            rw [this] at e
            simp at e
            exact .inr ⟨by omega, e.symm⟩
        have gs1 : ∀ i, i < n → (Z.st.take n ++ [c])[i]? = Z.st[i]? := fun i hi => by rw [List.getElem?_append_left (by omega), take_get hi]
        have gs2 : (Z.st.take n ++ [c])[n]? = some c := by rw [List.getElem?_append_right (by omega), ht]; simp
        have hW : ∀ b, (Zs.mk (Z.φ.take n ++ [a]) (Z.st.take n ++ [c]) Z.H Z.F).W b → Z.W b := wless fun i b q1 c2 q2 q3 => by
          rcases gφ i b q1 with ⟨hi, q1⟩ | ⟨rfl, rfl⟩
          · rw [gs1 i hi] at q2
            exact ⟨i, c2, q1, q2, q3⟩
          · exact ⟨hh, c, e1, ec, e3⟩
        have p1 : ∀ i, i < n → (Z.φ.take n ++ [a])[i]? = Z.φ[i]? := fun i hi => by rw [List.getElem?_append_left (by omega), take_get hi]
        refine k (Zs.mk (Z.φ.take n ++ [a]) (Z.st.take n ++ [c]) Z.H Z.F) v (.o n) ⟨⟨[a], by rw [tφ], fun b hb => ?_⟩, l.len, fun i c2 e => ?_, l.frm, l.fgn, l.dom⟩ ⟨?_, ?_, fun i b c2 q1 q2 => ?_, ok.fo, fun b m => ?_, ok.tb.less hW⟩ ?_ q
        · have : b = a := by simpa using hb
          subst this
          exact hψ b ha
        · obtain ⟨c3, q1, q2⟩ := l.liv i c2 e
          have hi : i < n := by rw [← hn]; exact (List.getElem?_eq_some_iff.mp e).1
          exact ⟨c3, (gs1 i hi).trans q1, q2⟩
        · show (Z.φ.take n ++ [a]).length = (Z.st.take n ++ [c]).length
          rw [List.length_append, List.length_append, ht, htφ]
          rfl
        · have nd := ok.nd
          rw [eφ] at nd
          show (Z.φ.take n ++ [a]).Nodup
          rw [tφ]
          exact nd.sublist (List.Sublist.append (List.Sublist.refl _) (List.singleton_sublist.mpr ha))
        · have q1' : (Z.φ.take n ++ [a])[i]? = some b := q1
          have q2' : (Z.st.take n ++ [c])[i]? = some c2 := q2
          rcases gφ i b q1' with ⟨hi, q1'⟩ | ⟨rfl, rfl⟩
          · have m : c2 ∈ Z.st.take n := by
              rw [List.getElem?_append_left (by omega)] at q2'
              exact List.mem_of_getElem? q2'
            rw [gs1 i hi] at q2'
            exact ct_less (Z := Z) (Z' := ⟨Z.φ.take n ++ [a], Z.st.take n ++ [c], Z.H, Z.F⟩) (n := n) rfl rfl hW p1 gs1 (hc c2 m) (ok.ct i b c2 q1' q2')
          · rw [gs2] at q2'
            cases q2'
            exact ct_less (Z := Z) (Z' := ⟨Z.φ.take i ++ [b], Z.st.take i ++ [c], Z.H, Z.F⟩) (n := i) rfl rfl hW p1 gs1 hcl (ok.ct hh b c e1 ec)
        · rcases List.mem_append.mp m with m | m
          · exact ok.fd b (List.mem_of_mem_take m)
          · have : b = a := by simpa using m
            subst this
            exact ok.fd b (List.mem_of_getElem? e1)
        · exact ⟨a, c, ev, by show (Z.φ.take n ++ [a])[n]? = _; rw [List.getElem?_append_right (by omega), htφ]; simp, gs2, e3⟩
      · exact h.elim
end
theorem RpAll.get {K : Frag} {Z : Zs} : ∀ {vs : List V} {ss : List Sl} {i : Nat} {s : Sl}, RpAll K Z vs ss → ss[i]? = some s → ∃ v, vs[i]? = some v ∧ Rp K Z v s
  | _, _, 0, _, .cons q _, e => by simp at e; subst e; exact ⟨_, rfl, q⟩
  | _, _, i + 1, s, .cons _ r, e => by simpa using RpAll.get (i := i) (s := s) r (by simpa using e)
def startS (N : List Str) (ss : List Sl) : Sls := ss.map some ++ List.replicate (N.length - ss.length) none
theorem startS_ok {K : Frag} {Z : Zs} {N : List Str} {vs : List V} {ss : List Sl} (r : RpAll K Z vs ss) : SlOk K Z (L2.start N vs) (startS N ss) := by
  have hl := r.length
  refine ⟨?_, fun i s e => ?_⟩
  · unfold L2.start startS
    simp [hl]
  · unfold startS at e
    have hi : i < ss.length := by
      rcases Nat.lt_or_ge i ss.length with z | z
      · exact z
      · rw [List.getElem?_append_right (by simpa using z), List.getElem?_replicate] at e
        split at e <;> cases e
    rw [List.getElem?_append_left (by simpa using hi), List.getElem?_map] at e
    cases q : ss[i]? with
    | none => rw [q] at e; cases e
    | some t =>
      rw [q] at e
      cases e
      obtain ⟨v, hv, rv⟩ := r.get q
      refine ⟨v, ?_, rv⟩
      unfold L2.start
      rw [List.getElem?_append_left (by rw [List.length_map, hl]; exact hi), List.getElem?_map, hv]
      rfl
theorem EndsOk.ret {K : Frag} {Z0 Zc : Zs} {n0 : Nat} {Qd : DK} {Q : VK} (hn : Z0.st.length = n0) (k : KOk K Z0 Qd Q) :
    EndsOk K W0 Z0 Zc ⟨fun _ st => Ret n0 (.d .none) st Qd, fun s st => Ret n0 s st Qd, fun _ _ _ _ => False, fun _ _ => False, fun _ _ => False⟩ { nx := fun _ H' => Q .non H', rt := Q } where
  nx := fun Z sl σ l _ ok so h => ret_ok hn l ok (v := .non) (s := .d .none) Im.non h k
  rt := fun Z v s l ok r h => ret_ok hn l ok r h k
  ex := fun _ _ _ _ _ _ _ _ _ _ _ _ _ h => h
  bk := fun _ _ _ _ _ _ _ h => h
  ct := fun _ _ _ _ _ _ _ h => h
section
variable {P : Program} {w : World} {K : Frag} {mg : Str → Option Value} {base : Heap} {k : Nat} {f : Addr} {fd : FuncData} {ps N : List Str} {dsp : DSp} {x qual : Str} {st : Stmt}
theorem FnD.of0 (F : Fun K x qual st f fd) (S : FnScope N ps (defScope st)) (n0 : Nat) (τ : DS)
    (hb : ∀ (cdv : Value) (A : Around) (outer : List Env) (s : Shared) (H : Hp) (E : XK) (Z0 : Zs), A.guards = some [] → Room k (A.deeper (envOfC qual (defScope st) s.heap.objs.size f cdv)) → Z0.st.length = n0 →
      DSs (cxOf CX0 P w K mg base N qual (defScope st) f cdv A outer s H E).nox W0 Z0 (defBody st) τ)
    (hw : ∀ (ss : List Sl) (cs : Sto) (Qd : DK) (Ed : DXF), dsp ss cs Qd Ed → ss.length = ps.length → cs.length = n0 ∧ τ ⟨fun _ st => Ret n0 (.d .none) st Qd, fun s st => Ret n0 s st Qd, fun _ _ _ _ => False, fun _ _ => False, fun _ _ => False⟩ (startS N ss) cs) :
    FnD P w K mg base CX0 (k + 1) f fd ps dsp := by
  refine FnG.of F S (fun vs H Q E ⟨Z, ss, Qd, Ed, _, _, ra, hl, _⟩ => ra.length.trans hl) fun cdv A outer s H vs Q E hg hr ⟨Z, ss, Qd, Ed, e, ok, ra, hl, hd, kQ, kE⟩ => ?_
  obtain ⟨hn, q⟩ := hw ss Z.st Qd Ed hd hl
  refine ⟨_, (hb cdv A outer s H E Z hg hr hn).run.nox, ?_⟩
  exact ⟨Z, startS N ss, _, e, .refl ok, ok, startS_ok ra, q, .ret hn kQ⟩
end
def hsOf : List Sl → List Nat
  | [] => []
  | .o h :: r => h :: (hsOf r).filter fun j => j != h
  | .d _ :: r => hsOf r
  | .r _ :: r => hsOf r
  | .l _ _ _ :: r => hsOf r
  | .f _ :: r => hsOf r
def locS (hs : List Nat) : Sl → Sl
  | .o h => .o (hs.idxOf h)
  | s => s
def gloS (hs : List Nat) (n : Nat) : Sl → Sl
  | .o j => .o (if j < hs.length then hs.getD j 0 else n + (j - hs.length))
  | s => s
def getAll (st : Sto) : List Nat → Option (List Ct)
  | [] => some []
  | h :: hs => match st[h]?, getAll st hs with
    | some c, some cs => some (c :: cs)
    | _, _ => none
def putAll (st : Sto) : List Nat → List Ct → Sto
  | h :: hs, c :: cs => putAll (st.set h c) hs cs
  | [], cs => st ++ cs
  | _, [] => st
theorem getAll_get {st : Sto} : ∀ {hs : List Nat} {cs : List Ct}, getAll st hs = some cs → cs.length = hs.length ∧ ∀ (i h : Nat), hs[i]? = some h → ∃ c, st[h]? = some c ∧ cs[i]? = some c
  | [], cs, e => by
    simp only [getAll, Option.some.injEq] at e
    subst e
    exact ⟨rfl, fun i h z => by simp at z⟩
  | h :: hs, cs, e => by
    simp only [getAll] at e
    split at e
    · rename_i c cs' e1 e2
      simp only [Option.some.injEq] at e
      subst e
      obtain ⟨l, g⟩ := getAll_get e2
      refine ⟨by simp [l], fun i h' z => ?_⟩
      cases i with
      | zero => simp at z; subst z; exact ⟨c, e1, rfl⟩
      | succ i => obtain ⟨c', q1, q2⟩ := g i h' (by simpa using z); exact ⟨c', q1, by simpa using q2⟩
    · cases e
theorem hsOf_nd : ∀ ss : List Sl, (hsOf ss).Nodup
  | [] => .nil
  | .o h :: r => by
    unfold hsOf
    refine List.nodup_cons.mpr ⟨fun m => ?_, (hsOf_nd r).sublist List.filter_sublist⟩
    have := (List.mem_filter.mp m).2
    simp at this
  | .d _ :: r => hsOf_nd r
  | .r _ :: r => hsOf_nd r
  | .l _ _ _ :: r => hsOf_nd r
  | .f _ :: r => hsOf_nd r
theorem hsOf_mem : ∀ {ss : List Sl} {h : Nat}, Sl.o h ∈ ss → h ∈ hsOf ss
  | .o h :: r, j, m => by
    unfold hsOf
    rcases List.mem_cons.mp m with e | m
    · cases e; exact List.mem_cons_self
    · by_cases z : j = h
      · subst z; exact List.mem_cons_self
      · exact List.mem_cons_of_mem _ (List.mem_filter.mpr ⟨hsOf_mem m, by simpa using z⟩)
  | .d _ :: r, j, m => by
    rcases List.mem_cons.mp m with e | m
    · cases e
    · exact hsOf_mem (ss := r) m
  | .r _ :: r, j, m => by
    rcases List.mem_cons.mp m with e | m
    · cases e
    · exact hsOf_mem (ss := r) m
  | .l _ _ _ :: r, j, m => by
    rcases List.mem_cons.mp m with e | m
    · cases e
    · exact hsOf_mem (ss := r) m
  | .f _ :: r, j, m => by
    rcases List.mem_cons.mp m with e | m
    · cases e
    · exact hsOf_mem (ss := r) m
  | [], _, m => by cases m
theorem putAll_spec : ∀ {hs : List Nat} {st : Sto} {cs : List Ct}, hs.Nodup → (∀ h ∈ hs, h < st.length) → hs.length ≤ cs.length →
    (putAll st hs cs).length = st.length + (cs.length - hs.length) ∧ (∀ (i h : Nat), hs[i]? = some h → (putAll st hs cs)[h]? = cs[i]?) ∧ (∀ h : Nat, h < st.length → h ∉ hs → (putAll st hs cs)[h]? = st[h]?) ∧ ∀ j : Nat, (putAll st hs cs)[st.length + j]? = cs[hs.length + j]?
  | [], st, cs, _, _, _ => by
    refine ⟨by simp [putAll], fun i h e => by simp at e, fun h hh _ => ?_, fun j => ?_⟩
    · simp only [putAll]; rw [List.getElem?_append_left hh]
    · simp only [putAll, List.length_nil, Nat.zero_add]; rw [List.getElem?_append_right (by omega), Nat.add_sub_cancel_left]
  | h :: hs, st, [], _, _, z => by simp at z
  | h :: hs, st, c :: cs, nd, hb, hl => by
    have nd' := List.nodup_cons.mp nd
    have hb' : ∀ x ∈ hs, x < (st.set h c).length := fun x m => by rw [List.length_set]; exact hb x (List.mem_cons_of_mem _ m)
    obtain ⟨a1, a2, a3, a4⟩ := putAll_spec (hs := hs) (st := st.set h c) (cs := cs) nd'.2 hb' (by simpa using hl)
    have hh : h < st.length := hb h List.mem_cons_self
    refine ⟨by simp only [putAll]; rw [a1, List.length_set]; simp, fun i x e => ?_, fun x hx nm => ?_, fun j => ?_⟩
    · cases i with
      | zero =>
        simp at e
        subst e
        simp only [putAll]
        rw [a3 h (by rw [List.length_set]; exact hh) nd'.1, List.getElem?_set_self hh]
        rfl
      | succ i =>
        simp only [putAll]
        rw [a2 i x (by simpa using e)]
        simp
    · simp only [putAll]
      have hne : h ≠ x := fun z => nm (z ▸ List.mem_cons_self)
      rw [a3 x (by rw [List.length_set]; exact hx) (fun m => nm (List.mem_cons_of_mem _ m)), List.getElem?_set_ne hne]
    · simp only [putAll]
      have := a4 j
      rw [List.length_set] at this
      rw [this]
      simp [Nat.add_right_comm]
def locCall (dsp : DSp) (ss : List Sl) (st : Sto) (Q : DK) (Ed : DXF) : Prop := match getAll st (hsOf ss) with
  | some cs => (∀ c ∈ cs, Cl 0 c) ∧ dsp (ss.map (locS (hsOf ss))) cs (fun s cs' => (∀ c ∈ cs', Cl 0 c) ∧ Q (gloS (hsOf ss) st.length s) (putAll st (hsOf ss) cs')) fun c fs cs' => (∀ c ∈ cs', Cl 0 c) ∧ Ed c fs (putAll st (hsOf ss) cs')
  | none => False
def Zs.loc (Z : Zs) (hs : List Nat) (cs : Sto) : Zs := ⟨hs.map fun h => Z.φ.getD h 0, cs, Z.H, fun a => Z.W a ∧ a ∉ hs.map fun h => Z.φ.getD h 0⟩
def Zs.back (Z Z' : Zs) (hs : List Nat) : Zs := ⟨Z.φ ++ Z'.φ.drop hs.length, putAll Z.st hs Z'.st, Z'.H, Z.F⟩
section
variable {K : Frag} {Z : Zs} {hs : List Nat} {cs : Sto}
theorem rp_handle {v : V} {h : Nat} (r : Rp K Z v (.o h)) : h < Z.φ.length := by
  obtain ⟨a, c, _, e, _⟩ := r
  exact (List.getElem?_eq_some_iff.mp e).1
theorem loc_at (hb : ∀ h ∈ hs, h < Z.φ.length) {i h : Nat} (e : hs[i]? = some h) : (Z.loc hs cs).φ[i]? = Z.φ[h]? := by
  have hh := hb h (List.mem_of_getElem? e)
  simp only [Zs.loc, List.getElem?_map, e, Option.map_some]
  rw [List.getElem?_eq_getElem hh, List.getD_eq_getElem?_getD, List.getElem?_eq_getElem hh]
  rfl
theorem loc_inv (hb : ∀ h ∈ hs, h < Z.φ.length) {i : Nat} {a : Addr} (e : (Z.loc hs cs).φ[i]? = some a) : ∃ h, hs[i]? = some h ∧ Z.φ[h]? = some a := by
  have hi : i < hs.length := by
    have := (List.getElem?_eq_some_iff.mp e).1
    simpa [Zs.loc] using this
  have q : hs[i]? = some hs[i] := List.getElem?_eq_getElem hi
  exact ⟨hs[i], q, (loc_at hb q).symm.trans e⟩
theorem loc_in (ok : Ok K Z) (hg : getAll Z.st hs = some cs) (hb : ∀ h ∈ hs, h < Z.φ.length) {a : Addr} (m : a ∈ (Z.loc hs cs).φ) (w : Z.W a) : (Z.loc hs cs).O a := by
  obtain ⟨i, hi, e⟩ := List.getElem_of_mem m
  have e1 : (Z.loc hs cs).φ[i]? = some a := by rw [List.getElem?_eq_getElem hi, e]
  obtain ⟨h, q1, q2⟩ := loc_inv hb e1
  obtain ⟨c, p1, p2⟩ := (getAll_get hg).2 i h q1
  rcases w with ⟨j, c', r1, r2, r3⟩ | w
  · have lt1 := (List.getElem?_eq_some_iff.mp q2).1
    have lt2 := (List.getElem?_eq_some_iff.mp r1).1
    rw [List.getElem?_eq_getElem lt1] at q2
    rw [List.getElem?_eq_getElem lt2] at r1
    have z : h = j := (List.getElem_inj ok.nd).mp ((Option.some.inj q2).trans (Option.some.inj r1).symm)
    subst z
    rw [p1] at r2
    cases r2
    exact ⟨i, c, e1, p2, r3⟩
  · exact absurd w (ok.fd a (List.mem_of_getElem? q2))
theorem loc_W (ok : Ok K Z) (hg : getAll Z.st hs = some cs) (hb : ∀ h ∈ hs, h < Z.φ.length) : (Z.loc hs cs).W = Z.W := by
  funext a
  refine propext ⟨fun w => ?_, fun w => ?_⟩
  · rcases w with ⟨i, c, e1, e2, e3⟩ | w
    · obtain ⟨h, q1, q2⟩ := loc_inv hb e1
      obtain ⟨c', p1, p2⟩ := (getAll_get hg).2 i h q1
      rw [show (Z.loc hs cs).st = cs from rfl, p2] at e2
      cases e2
      exact .inl ⟨h, _, q2, p1, e3⟩
    · exact w.1
  · by_cases m : a ∈ (Z.loc hs cs).φ
    · exact .inl (loc_in ok hg hb m w)
    · exact .inr ⟨w, m⟩
theorem loc_Ok (ok : Ok K Z) (hg : getAll Z.st hs = some cs) (hb : ∀ h ∈ hs, h < Z.φ.length) (nd : hs.Nodup) (hc : ∀ c ∈ cs, Cl 0 c) : Ok K (Z.loc hs cs) where
  len := by
    show (hs.map _).length = cs.length
    rw [List.length_map, (getAll_get hg).1]
  nd := by
    refine List.pairwise_iff_getElem.mpr fun i j hi hj lt e => ?_
    have hi' : i < hs.length := by simpa [Zs.loc] using hi
    have hj' : j < hs.length := by simpa [Zs.loc] using hj
    have e1 := loc_at (cs := cs) hb (List.getElem?_eq_getElem hi')
    have e2 := loc_at (cs := cs) hb (List.getElem?_eq_getElem hj')
    rw [List.getElem?_eq_getElem hi, List.getElem?_eq_getElem (hb _ (List.getElem_mem hi'))] at e1
    rw [List.getElem?_eq_getElem hj, List.getElem?_eq_getElem (hb _ (List.getElem_mem hj'))] at e2
    have e3 : hs[i] = hs[j] := (List.getElem_inj ok.nd).mp (by rw [← Option.some.inj e1, ← Option.some.inj e2, e])
    have e4 : i = j := (List.getElem_inj nd).mp e3
    omega
  ct := fun i a c e1 e2 => by
    obtain ⟨h, q1, q2⟩ := loc_inv hb e1
    obtain ⟨c', p1, p2⟩ := (getAll_get hg).2 i h q1
    have e2' : cs[i]? = some c := e2
    rw [p2] at e2'
    obtain rfl : c' = c := Option.some.inj e2'
    have hcl := hc c' (List.mem_of_getElem? p2)
    have q := ok.ct h a c' q2 p1
    cases c' with
    | lst ds => obtain ⟨vs, z1, z2⟩ := q; exact ⟨vs, z1, by rw [Zs.ImAll, loc_W ok hg hb]; exact z2⟩
    | lsS xs =>
      obtain ⟨us, z1, z3⟩ := q
      refine ⟨us, z1, ?_⟩
      have all : ∀ {vs : List V} {ss : List Sl}, (∀ s ∈ ss, SlIn 0 s) → RpAll K Z vs ss → RpAll K (Z.loc hs cs) vs ss := by
        intro vs ss hss r
        induction r with
        | nil => exact .nil
        | @cons v vs s ss p r ih =>
          refine .cons ?_ (ih fun x m => hss x (List.mem_cons_of_mem _ m))
          have hz := hss s List.mem_cons_self
          cases s with
          | d x => show Pz.Im K (Z.loc hs cs).W _ _ _; rw [loc_W ok hg hb]; exact p
          | o h => exact absurd hz (Nat.not_lt_zero _)
          | r u => exact p
          | l _ _ _ => exact ⟨p.1, by rw [loc_W ok hg hb]; exact p.2⟩
          | f ns => obtain ⟨a, z, y⟩ := p; exact ⟨a, z, by rw [loc_W ok hg hb]; exact y⟩
      exact all hcl z3
    | dK kvs => obtain ⟨vs, z1, z2, z3⟩ := q; exact ⟨vs, z1, z2, by rw [Zs.ImAll, loc_W ok hg hb]; exact z3⟩
    | dT kvs => obtain ⟨vs, z1, z2, z3⟩ := q; exact ⟨vs, z1, z2, by rw [Zs.ImAll, loc_W ok hg hb]; exact z3⟩
    | dN fs =>
      obtain ⟨us, z1, z2, z3⟩ := q
      refine ⟨us, z1, z2, ?_⟩
      have all : ∀ {vs : List V} {ss : List Sl}, (∀ s ∈ ss, SlIn 0 s) → RpAll K Z vs ss → RpAll K (Z.loc hs cs) vs ss := by
        intro vs ss hss r
        induction r with
        | nil => exact .nil
        | @cons v vs s ss p r ih =>
          refine .cons ?_ (ih fun x m => hss x (List.mem_cons_of_mem _ m))
          have hz := hss s List.mem_cons_self
          cases s with
          | d x => show Pz.Im K (Z.loc hs cs).W _ _ _; rw [loc_W ok hg hb]; exact p
          | o h => exact absurd hz (Nat.not_lt_zero _)
          | r u => exact p
          | l _ _ _ => exact ⟨p.1, by rw [loc_W ok hg hb]; exact p.2⟩
          | f ns => obtain ⟨a, z, y⟩ := p; exact ⟨a, z, by rw [loc_W ok hg hb]; exact y⟩
      refine all (fun s m => ?_) z3
      obtain ⟨p, hp, rfl⟩ := List.mem_map.mp m
      exact hcl p hp
    | ins C fs =>
      obtain ⟨dx, us, z1, z2, z3⟩ := q
      refine ⟨dx, us, z1, z2, ?_⟩
      have all : ∀ {vs : List V} {ss : List Sl}, (∀ s ∈ ss, SlIn 0 s) → RpAll K Z vs ss → RpAll K (Z.loc hs cs) vs ss := by
        intro vs ss hss r
        induction r with
        | nil => exact .nil
        | @cons v vs s ss p r ih =>
          refine .cons ?_ (ih fun x m => hss x (List.mem_cons_of_mem _ m))
          have hz := hss s List.mem_cons_self
          cases s with
          | d x => show Pz.Im K (Z.loc hs cs).W _ _ _; rw [loc_W ok hg hb]; exact p
          | o h => exact absurd hz (Nat.not_lt_zero _)
          | r u => exact p
          | l _ _ _ => exact ⟨p.1, by rw [loc_W ok hg hb]; exact p.2⟩
          | f ns => obtain ⟨a, z, y⟩ := p; exact ⟨a, z, by rw [loc_W ok hg hb]; exact y⟩
      refine all (fun s m => ?_) z3
      obtain ⟨p, hp, rfl⟩ := List.mem_map.mp m
      exact hcl p hp
    | exc c fs =>
      obtain ⟨cv, d, hc, z1, z2⟩ := q
      have s : Stay Z.W (Z.loc hs cs).W Z.H (Z.loc hs cs).H := by rw [loc_W ok hg hb]; exact Stay.less fun _ w => w
      exact ⟨cv, d, hc, z1, z2.tr s⟩
    | dead => exact q
  fo := fun a w => by
    have w' : Z.W a := w.1
    rcases w' with w' | w'
    · exact ok.has w'.mem
    · exact ok.fo a w'
  fd := fun a m w => w.2 m
  tb := ok.tb.less fun a w => by rw [← loc_W ok hg hb]; exact w
theorem loc_rp (ok : Ok K Z) (hg : getAll Z.st hs = some cs) (hb : ∀ h ∈ hs, h < Z.φ.length) {v : V} {s : Sl} (hm : ∀ h, s = .o h → h ∈ hs) (r : Rp K Z v s) : Rp K (Z.loc hs cs) v (locS hs s) := by
  cases s with
  | d x => show Pz.Im K (Z.loc hs cs).W _ _ _; rw [loc_W ok hg hb]; exact r
  | o h =>
    obtain ⟨a, c, e, e1, e2, e3⟩ := r
    have m := hm h rfl
    have q : hs[hs.idxOf h]? = some h := by
      rw [List.getElem?_eq_getElem (List.idxOf_lt_length_of_mem m)]
      exact congrArg some (List.getElem_idxOf _)
    obtain ⟨c', p1, p2⟩ := (getAll_get hg).2 _ h q
    rw [e2] at p1
    cases p1
    exact ⟨a, c, e, (loc_at hb q).trans e1, p2, e3⟩
  | r u => exact r
  | l _ _ _ => exact ⟨r.1, by rw [loc_W ok hg hb]; exact r.2⟩
  | f ns => obtain ⟨a, z, y⟩ := r; exact ⟨a, z, by rw [loc_W ok hg hb]; exact y⟩
end
section
variable {K : Frag} {Z Z' : Zs} {hs : List Nat} {cs : Sto}
theorem back_pre (l : Le (Z.loc hs cs) Z') : ∃ ψ, Z'.φ = (Z.loc hs cs).φ ++ ψ ∧ Z'.φ.drop hs.length = ψ ∧ ∀ a ∈ ψ, Z.H a = none := by
  obtain ⟨ψ, e, hn⟩ := l.pre
  refine ⟨ψ, e, ?_, hn⟩
  rw [e]
  have : (Z.loc hs cs).φ.length = hs.length := by simp [Zs.loc]
  rw [← this, List.drop_left]
theorem back_le (ok : Ok K Z) (hg : getAll Z.st hs = some cs) (hb : ∀ h ∈ hs, h < Z.φ.length) (nd : hs.Nodup) (l : Le (Z.loc hs cs) Z') (ok' : Ok K Z') : Le Z (Z.back Z' hs) := by
  obtain ⟨ψ, e, ed, hn⟩ := back_pre l
  have hb2 : ∀ h ∈ hs, h < Z.st.length := fun h m => by rw [← ok.len]; exact hb h m
  have hl : hs.length ≤ Z'.st.length := by
    rw [← ok'.len, e, List.length_append]
    simp [Zs.loc]
  obtain ⟨s1, s2, s3, s4⟩ := putAll_spec nd hb2 hl
  refine ⟨⟨ψ, by show Z.φ ++ _ = _; rw [ed], hn⟩, ok.len.symm, fun h c ec => ?_, fun a o ea na nt => ?_, rfl, fun a o ea => l.dom a o ea⟩
  · have hh : h < Z.st.length := (List.getElem?_eq_some_iff.mp ec).1
    show ∃ c', (putAll Z.st hs Z'.st)[h]? = some c' ∧ _
    by_cases m : h ∈ hs
    · obtain ⟨i, hi, ei⟩ := List.getElem_of_mem m
      have q : hs[i]? = some h := by rw [List.getElem?_eq_getElem hi, ei]
      obtain ⟨c', p1, p2⟩ := (getAll_get hg).2 i h q
      rw [ec] at p1
      cases p1
      obtain ⟨c2, r1, r2⟩ := l.liv i c p2
      exact ⟨c2, by rw [s2 i h q]; exact r1, r2⟩
    · exact ⟨c, by rw [s3 h hh m]; exact ec, Iff.rfl⟩
  · refine l.frm a o ea (fun w => ?_) nt
    obtain ⟨i, c, e1, e2, e3⟩ := w
    obtain ⟨h, q1, q2⟩ := loc_inv hb e1
    obtain ⟨c', p1, p2⟩ := (getAll_get hg).2 i h q1
    have e2' : cs[i]? = some c := e2
    rw [p2] at e2'
    cases e2'
    exact na ⟨h, _, q2, p1, e3⟩
theorem back_at (ok : Ok K Z) (hg : getAll Z.st hs = some cs) (hb : ∀ h ∈ hs, h < Z.φ.length) (nd : hs.Nodup) (l : Le (Z.loc hs cs) Z') (ok' : Ok K Z') {h : Nat} {a : Addr} {c : Ct} (e1 : (Z.back Z' hs).φ[h]? = some a) (e2 : (Z.back Z' hs).st[h]? = some c) :
    (h ∉ hs ∧ Z.φ[h]? = some a ∧ Z.st[h]? = some c) ∨ ∃ i : Nat, Z'.φ[i]? = some a ∧ Z'.st[i]? = some c := by
  obtain ⟨ψ, e, ed, hn⟩ := back_pre l
  have hb2 : ∀ h ∈ hs, h < Z.st.length := fun h m => by rw [← ok.len]; exact hb h m
  have lφ : (Z.loc hs cs).φ.length = hs.length := by simp [Zs.loc]
  have hl : hs.length ≤ Z'.st.length := by
    rw [← ok'.len, e, List.length_append, lφ]
    omega
  obtain ⟨s1, s2, s3, s4⟩ := putAll_spec nd hb2 hl
  have e1' : (Z.φ ++ ψ)[h]? = some a := by rw [← ed]; exact e1
  have e2' : (putAll Z.st hs Z'.st)[h]? = some c := e2
  by_cases hh : h < Z.φ.length
  · rw [List.getElem?_append_left hh] at e1'
    by_cases m : h ∈ hs
    · obtain ⟨i, hi, ei⟩ := List.getElem_of_mem m
      have q : hs[i]? = some h := by rw [List.getElem?_eq_getElem hi, ei]
      refine .inr ⟨i, ?_, by rw [← s2 i h q]; exact e2'⟩
      rw [e, List.getElem?_append_left (by rw [lφ]; exact hi), loc_at hb q]
      exact e1'
    · exact .inl ⟨m, e1', by rw [← s3 h (by rw [← ok.len]; exact hh) m]; exact e2'⟩
  · rw [List.getElem?_append_right (by omega)] at e1'
    refine .inr ⟨hs.length + (h - Z.φ.length), ?_, ?_⟩
    · rw [e, List.getElem?_append_right (by rw [lφ]; omega), lφ, Nat.add_sub_cancel_left]
      exact e1'
    · rw [← s4 (h - Z.φ.length), ← ok.len]
      rw [show Z.φ.length + (h - Z.φ.length) = h by omega]
      exact e2'
theorem back_W (ok : Ok K Z) (hg : getAll Z.st hs = some cs) (hb : ∀ h ∈ hs, h < Z.φ.length) (nd : hs.Nodup) (l : Le (Z.loc hs cs) Z') (ok' : Ok K Z') (a : Addr) (w : (Z.back Z' hs).W a) : Z'.W a := by
  have notin : ∀ (h : Nat), h ∉ hs → Z.φ[h]? = some a → a ∉ (Z.loc hs cs).φ := fun h m q1 z => by
    obtain ⟨i, hi, e⟩ := List.getElem_of_mem z
    obtain ⟨h', r1, r2⟩ := loc_inv (cs := cs) hb (show (Z.loc hs cs).φ[i]? = some a by rw [List.getElem?_eq_getElem hi, e])
    have lt1 := (List.getElem?_eq_some_iff.mp q1).1
    have lt2 := (List.getElem?_eq_some_iff.mp r2).1
    rw [List.getElem?_eq_getElem lt1] at q1
    rw [List.getElem?_eq_getElem lt2] at r2
    have z : h = h' := (List.getElem_inj ok.nd).mp ((Option.some.inj q1).trans (Option.some.inj r2).symm)
    exact m (z ▸ List.mem_of_getElem? r1)
  rcases w with ⟨h, c, e1, e2, e3⟩ | w
  · rcases back_at ok hg hb nd l ok' e1 e2 with ⟨m, q1, q2⟩ | ⟨i, q1, q2⟩
    · refine .inr ?_
      rw [l.fgn]
      exact ⟨.inl ⟨h, c, q1, q2, e3⟩, notin h m q1⟩
    · exact .inl ⟨i, c, q1, q2, e3⟩
  · refine .inr ?_
    rw [l.fgn]
    refine ⟨.inr w, fun z => ?_⟩
    have z' : a ∈ (Z.loc hs cs).φ := z
    obtain ⟨i, hi, e⟩ := List.getElem_of_mem z'
    obtain ⟨h', r1, r2⟩ := loc_inv (cs := cs) hb (show (Z.loc hs cs).φ[i]? = some a by rw [List.getElem?_eq_getElem hi, e])
    exact ok.fd a (List.mem_of_getElem? r2) w
theorem back_rp (ok : Ok K Z) (hg : getAll Z.st hs = some cs) (hb : ∀ h ∈ hs, h < Z.φ.length) (nd : hs.Nodup) (l : Le (Z.loc hs cs) Z') (ok' : Ok K Z') {v : V} {s : Sl} (r : Rp K Z' v s) : Rp K (Z.back Z' hs) v (gloS hs Z.st.length s) := by
  have hW := back_W ok hg hb nd l ok'
  cases s with
  | d x => exact Im.tr (Stay.less hW) (show Pz.Im K Z'.W Z'.H v x from r)
  | r u => exact r
  | l _ _ _ => exact ⟨r.1, r.2.trans (Stay.less hW)⟩
  | f ns => obtain ⟨a, z, y⟩ := r; exact ⟨a, z, y.tr (Stay.less hW)⟩
  | o j =>
    obtain ⟨a, c, ev, e1, e2, e3⟩ := r
    obtain ⟨ψ, e, ed, hn⟩ := back_pre l
    have hb2 : ∀ h ∈ hs, h < Z.st.length := fun h m => by rw [← ok.len]; exact hb h m
    have lφ : (Z.loc hs cs).φ.length = hs.length := by simp [Zs.loc]
    have hl : hs.length ≤ Z'.st.length := by
      rw [← ok'.len, e, List.length_append, lφ]
      omega
    obtain ⟨s1, s2, s3, s4⟩ := putAll_spec nd hb2 hl
    by_cases hj : j < hs.length
    · have q : hs[j]? = some (hs.getD j 0) := by
        rw [List.getD_eq_getElem?_getD, List.getElem?_eq_getElem hj]
        rfl
      refine ⟨a, c, ev, ?_, ?_, e3⟩
      · simp only [if_pos hj]
        show (Z.φ ++ _)[_]? = _
        rw [List.getElem?_append_left (hb _ (List.mem_of_getElem? q)), ← loc_at (cs := cs) hb q]
        rw [e, List.getElem?_append_left (by rw [lφ]; exact hj)] at e1
        exact e1
      · simp only [if_pos hj]
        show (putAll Z.st hs Z'.st)[_]? = _
        rw [s2 j _ q]
        exact e2
    · refine ⟨a, c, ev, ?_, ?_, e3⟩
      · simp only [if_neg hj]
        show (Z.φ ++ Z'.φ.drop hs.length)[_]? = _
        rw [ed, List.getElem?_append_right (by rw [ok.len]; omega), ok.len, Nat.add_sub_cancel_left]
        rw [e, List.getElem?_append_right (by rw [lφ]; omega), lφ] at e1
        exact e1
      · simp only [if_neg hj]
        show (putAll Z.st hs Z'.st)[_]? = _
        rw [s4]
        rw [show hs.length + (j - hs.length) = j by omega]
        exact e2
end
section
variable {K : Frag} {Z Z' : Zs} {hs : List Nat} {cs : Sto}
theorem cl_tr (hW : ∀ a, Z'.W a → Z.W a) (hH : Z'.H = Z.H) {a : Addr} : ∀ {c : Ct}, Cl 0 c → CtOk K Z a c → CtOk K Z' a c
  | .lst ds, _, h => by
    obtain ⟨vs, e, q⟩ := h
    have q' := ImAll.tr (Stay.less hW) (show Pz.ImAll K Z.W Z.H vs ds from q)
    rw [← hH] at e q'
    exact ⟨vs, e, q'⟩
  | .lsS xs, hc, h => by
    obtain ⟨us, e, q⟩ := h
    have all : ∀ {vs : List V} {ss : List Sl}, (∀ s ∈ ss, SlIn 0 s) → RpAll K Z vs ss → RpAll K Z' vs ss := by
      intro vs ss hss r
      induction r with
      | nil => exact .nil
      | @cons v vs s ss p r ih =>
        refine .cons ?_ (ih fun x m => hss x (List.mem_cons_of_mem _ m))
        have hz := hss s List.mem_cons_self
        cases s with
        | d x => show Pz.Im K Z'.W Z'.H _ _; rw [hH]; exact Im.tr (Stay.less hW) (show Pz.Im K Z.W Z.H v x from p)
        | o h => exact absurd hz (Nat.not_lt_zero _)
        | r u => exact p
        | l _ _ _ => exact ⟨p.1, by rw [hH]; exact p.2.trans (Stay.less hW)⟩
        | f ns => obtain ⟨a, z, y⟩ := p; exact ⟨a, z, by rw [hH]; exact y.tr (Stay.less hW)⟩
    rw [← hH] at e
    exact ⟨us, e, all hc q⟩
  | .dK kvs, _, h => by
    obtain ⟨vs, e, e2, q⟩ := h
    have q' := ImAll.tr (Stay.less hW) (show Pz.ImAll K Z.W Z.H _ _ from q)
    rw [← hH] at e q'
    exact ⟨vs, e, e2, q'⟩
  | .dT kvs, _, h => by
    obtain ⟨vs, e, e2, q⟩ := h
    have q' := ImAll.tr (Stay.less hW) (show Pz.ImAll K Z.W Z.H _ _ from q)
    rw [← hH] at e q'
    exact ⟨vs, e, e2, q'⟩
  | .dN fs, hc, h => by
    obtain ⟨us, e, e2, q⟩ := h
    have all : ∀ {vs : List V} {ss : List Sl}, (∀ s ∈ ss, SlIn 0 s) → RpAll K Z vs ss → RpAll K Z' vs ss := by
      intro vs ss hss r
      induction r with
      | nil => exact .nil
      | @cons v vs s ss p r ih =>
        refine .cons ?_ (ih fun x m => hss x (List.mem_cons_of_mem _ m))
        have hz := hss s List.mem_cons_self
        cases s with
        | d x => show Pz.Im K Z'.W Z'.H _ _; rw [hH]; exact Im.tr (Stay.less hW) (show Pz.Im K Z.W Z.H v x from p)
        | o h => exact absurd hz (Nat.not_lt_zero _)
        | r u => exact p
        | l _ _ _ => exact ⟨p.1, by rw [hH]; exact p.2.trans (Stay.less hW)⟩
        | f ns => obtain ⟨a, z, y⟩ := p; exact ⟨a, z, by rw [hH]; exact y.tr (Stay.less hW)⟩
    rw [← hH] at e
    refine ⟨us, e, e2, all (fun s m => ?_) q⟩
    obtain ⟨p, hp, rfl⟩ := List.mem_map.mp m
    exact hc p hp
  | .ins C fs, hc, h => by
    obtain ⟨dx, us, e, e2, q⟩ := h
    have all : ∀ {vs : List V} {ss : List Sl}, (∀ s ∈ ss, SlIn 0 s) → RpAll K Z vs ss → RpAll K Z' vs ss := by
      intro vs ss hss r
      induction r with
      | nil => exact .nil
      | @cons v vs s ss p r ih =>
        refine .cons ?_ (ih fun x m => hss x (List.mem_cons_of_mem _ m))
        have hz := hss s List.mem_cons_self
        cases s with
        | d x => show Pz.Im K Z'.W Z'.H _ _; rw [hH]; exact Im.tr (Stay.less hW) (show Pz.Im K Z.W Z.H v x from p)
        | o h => exact absurd hz (Nat.not_lt_zero _)
        | r u => exact p
        | l _ _ _ => exact ⟨p.1, by rw [hH]; exact p.2.trans (Stay.less hW)⟩
        | f ns => obtain ⟨a, z, y⟩ := p; exact ⟨a, z, by rw [hH]; exact y.tr (Stay.less hW)⟩
    rw [← hH] at e
    refine ⟨dx, us, e, e2, all (fun s m => ?_) q⟩
    obtain ⟨p, hp, rfl⟩ := List.mem_map.mp m
    exact hc p hp
  | .exc c fs, _, h => by
    obtain ⟨cv, d, hc, e, q⟩ := h
    have s : Stay Z.W Z'.W Z.H Z'.H := by rw [hH]; exact Stay.less hW
    rw [← hH] at e
    exact ⟨cv, d, hc, e, q.tr s⟩
  | .dead, _, h => by
    show Z'.H a ≠ none
    rw [hH]
    exact h
theorem back_Ok (ok : Ok K Z) (hg : getAll Z.st hs = some cs) (hb : ∀ h ∈ hs, h < Z.φ.length) (nd : hs.Nodup) (l : Le (Z.loc hs cs) Z') (ok' : Ok K Z') (hc : ∀ c ∈ Z'.st, Cl 0 c) : Ok K (Z.back Z' hs) := by
  obtain ⟨ψ, e, ed, hn⟩ := back_pre l
  have hb2 : ∀ h ∈ hs, h < Z.st.length := fun h m => by rw [← ok.len]; exact hb h m
  have lφ : (Z.loc hs cs).φ.length = hs.length := by simp [Zs.loc]
  have hl : hs.length ≤ Z'.st.length := by
    rw [← ok'.len, e, List.length_append, lφ]
    omega
  obtain ⟨s1, s2, s3, s4⟩ := putAll_spec nd hb2 hl
  have ll := back_le ok hg hb nd l ok'
  refine ⟨?_, ?_, fun h a c e1 e2 => ?_, fun a w => ?_, fun a m w => ?_, ok'.tb.less (back_W ok hg hb nd l ok')⟩
  · show (Z.φ ++ _).length = (putAll Z.st hs Z'.st).length
    rw [ed, s1, List.length_append, ok.len, ← ok'.len, e, List.length_append, lφ]
    omega
  · show (Z.φ ++ _).Nodup
    rw [ed]
    refine List.nodup_append.mpr ⟨ok.nd, ?_, fun a ha b hb' z => ?_⟩
    · have := ok'.nd
      rw [e] at this
      exact (List.nodup_append.mp this).2.1
    · subst z
      exact ok.fresh (hn a hb') ha
  · rcases back_at ok hg hb nd l ok' e1 e2 with ⟨m, q1, q2⟩ | ⟨i, q1, q2⟩
    · refine ctok_st ll.stay (fun r => r.tr ll) (fun o eo nt => ?_) (fun o eo => l.dom a o eo) (ok.ct h a c q1 q2)
      refine l.frm a o eo (fun w => ?_) nt
      obtain ⟨j, c', p1, p2, p3⟩ := w
      obtain ⟨h', r1, r2⟩ := loc_inv hb p1
      have lt1 := (List.getElem?_eq_some_iff.mp q1).1
      have lt2 := (List.getElem?_eq_some_iff.mp r2).1
      rw [List.getElem?_eq_getElem lt1] at q1
      rw [List.getElem?_eq_getElem lt2] at r2
      have z : h = h' := (List.getElem_inj ok.nd).mp (by rw [Option.some.inj q1, Option.some.inj r2])
      exact m (z ▸ List.mem_of_getElem? r1)
    · exact cl_tr (Z := Z') (Z' := Z.back Z' hs) (back_W ok hg hb nd l ok') rfl (hc c (List.mem_of_getElem? q2)) (ok'.ct i a c q1 q2)
  · obtain ⟨o, eo⟩ := ok.fo a w
    exact l.dom a o eo
  · rcases List.mem_append.mp (show a ∈ Z.φ ++ Z'.φ.drop hs.length from m) with m | m
    · exact ok.fd a m w
    · rw [ed] at m
      obtain ⟨o, eo⟩ := ok.fo a w
      rw [hn a m] at eo
      cases eo
theorem mem_o : ∀ {vs : List V} {ss : List Sl}, RpAll K Z vs ss → ∀ h, Sl.o h ∈ ss → h < Z.φ.length
  | _, _, .nil, _, m => by cases m
  | _, _, .cons p r, h, m => by
    rcases List.mem_cons.mp m with e | m
    · subst e; exact rp_handle p
    · exact mem_o r h m
theorem hsOf_in : ∀ {ss : List Sl} {h : Nat}, h ∈ hsOf ss → Sl.o h ∈ ss
  | .o j :: r, h, m => by
    unfold hsOf at m
    rcases List.mem_cons.mp m with e | m
    · subst e; exact List.mem_cons_self
    · exact List.mem_cons_of_mem _ (hsOf_in (List.mem_filter.mp m).1)
  | .d _ :: r, h, m => List.mem_cons_of_mem _ (hsOf_in (ss := r) m)
  | .r _ :: r, h, m => List.mem_cons_of_mem _ (hsOf_in (ss := r) m)
  | .l _ _ _ :: r, h, m => List.mem_cons_of_mem _ (hsOf_in (ss := r) m)
  | .f _ :: r, h, m => List.mem_cons_of_mem _ (hsOf_in (ss := r) m)
  | [], _, m => by cases m
theorem xd_back (ok : Ok K Z) (hg : getAll Z.st hs = some cs) (hb : ∀ h ∈ hs, h < Z.φ.length) (nd : hs.Nodup) (l : Le (Z.loc hs cs) Z') (ok' : Ok K Z') {fs : List (Str × PyData)} : ∀ {d : Option Addr}, XdOk K Z' fs d → XdOk K (Z.back Z' hs) fs d
  | none, h => h
  | some a, h => by
    obtain ⟨nw, us, e, e2, q⟩ := h
    exact ⟨fun w => nw (back_W ok hg hb nd l ok' _ w), us, e, e2, ImAll.tr (Stay.less (back_W ok hg hb nd l ok')) (show Pz.ImAll K Z'.W Z'.H _ _ from q)⟩
theorem loc_sp {vs : List V} {ss : List Sl} {dsp : DSp} {Qd : DK} {Q : VK} {Ed : DXF} {E : XK} {n : Nat} (ok : Ok K Z) (ra : RpAll K Z vs ss) (hn : ss.length = n) (h : locCall dsp ss Z.st Qd Ed) (k : KOk K Z Qd Q) (kx : KXF K Z Ed E) : toSp K n dsp vs Z.H Q E := by
  unfold locCall at h
  split at h
  · rename_i cs hg
    obtain ⟨hc, h⟩ := h
    have hb : ∀ h ∈ hsOf ss, h < Z.φ.length := fun h m => mem_o ra h (hsOf_in m)
    have nd := hsOf_nd ss
    refine ⟨Z.loc (hsOf ss) cs, ss.map (locS (hsOf ss)), _, _, rfl, loc_Ok ok hg hb nd hc, ?_, by rw [List.length_map]; exact hn, h, fun Z' v s l ok' r q => ?_, fun Z' c xn d fs l ok' x hcv q => ?_⟩
    · have all : ∀ {vs : List V} {ss' : List Sl}, (∀ h, Sl.o h ∈ ss' → h ∈ hsOf ss) → RpAll K Z vs ss' → RpAll K (Z.loc (hsOf ss) cs) vs (ss'.map (locS (hsOf ss))) := by
        intro vs ss' hm r
        induction r with
        | nil => exact .nil
        | cons p r ih => exact .cons (loc_rp ok hg hb (fun h e => hm h (by rw [← e]; exact List.mem_cons_self)) p) (ih fun h m => hm h (List.mem_cons_of_mem _ m))
      exact all (fun h m => hsOf_mem m) ra
    · exact k (Z.back Z' (hsOf ss)) v _ (back_le ok hg hb nd l ok') (back_Ok ok hg hb nd l ok' q.1) (back_rp ok hg hb nd l ok' r) q.2
    · exact kx (Z.back Z' (hsOf ss)) c xn d fs (back_le ok hg hb nd l ok') (back_Ok ok hg hb nd l ok' q.1) (xd_back ok hg hb nd l ok' x) hcv q.2
  · exact h.elim
end
section
variable {X : Cx} {CX : CXT} {k : Nat} {f : Addr} {fd : FuncData} {ps : List Str} {sp : Sp} {E : XK} {x : Str} {p pos : Pos} {e : Expr} {es : List Expr} {t : TA}
theorem runG {pins : List (Addr × Obj)} {σ : L2.St} {H : Hp} {s : Shared} {Q : VK} {us : List Value} {kw : List (Str × Value)} {vs : List V} {ws : List Value} (F : FnG X.prog X.w X.K X.mg X.base CX k f fd ps sp) (hg : X.A.guards = some []) (hr : Room k X.A) (hb : BindsTo s fd ⟨us, kw⟩ (ps.zip ws)) (hx : Passes CX X E)
    (I : L2.Inv X pins σ H s) (r : Vals vs ws) (h : sp vs H Q E) : wpAny (model X.prog X.w) X.A (call (.ref f) us kw) (EP X pins σ Q) X.xe s := by
  apply wpAny_call
  refine codeAny_mono (F.go X.A hg hr X.stack s H I.env0 ⟨us, kw⟩ ws hb vs Q E r h) ?_
  rintro (er | fl) s' q
  · exact hx pins σ H s er s' I q
  · rcases fl with _ | _ | _ | u
    · exact q.elim
    · exact q.elim
    · exact q.elim
    · exact I.after q
theorem pe_callG (F : FnG X.prog X.w X.K X.mg X.base CX k f fd ps sp) (hA : X.A.guards = some []) (hr : Room k X.A) (hg : Gl X x) (hm : X.mg x = some (.ref f)) (hk : PySem.W.keepIn X.K (.ref f) = true) (hb : Binds X.K fd ps []) (hx : Passes CX X E)
    (ha : PA X (e :: es) t) (hdb : (x == ("__debug__" : Str)) = false := by decide) (he : starEach (e :: es) X.env = (false, eval e X.env) :: starEach es X.env := by rfl) (hpl : (backTo pos (starEach es X.env)).any (·.1) = false := by rfl) :
    PE X (.Call (.Name x p) (e :: es) [] pos) (tCall sp [] E t) := by
  constructor
  intro pins s σ H Q I h
  refine wpAny_Call_Name_kw (ld_glob I hg hm (PySem.W.callWith_K (h₀ := X.base) I.ok.mod.kin hk (thn (ha.run pos pins s σ H _ I h) ?_) he hpl) hdb)
  rintro us s1 ⟨vs, H1, I1, r, q⟩
  rw [List.append_nil] at q
  have b := hb s1 us I1.kIn (by rw [List.append_nil, ← r.length]; exact F.len _ _ _ _ q)
  rw [List.append_nil] at b
  exact ⟨I1.kIn, runG F hA hr b hx I1 r q⟩
structure KwB (K : Frag) (fd : FuncData) (ps : List Str) (n : Nat) (ks : List Str) (g : ∀ {α : Type}, List α → List α → List α) : Prop where
  to : ∀ (s : Shared) (us ws : List Value), K.In s.heap → us.length = n → ws.length = ks.length → BindsTo s fd ⟨us, ks.zip ws⟩ (ps.zip (g us ws))
  rel : ∀ {vs : List V} {us : List Value} {zs : List V} {ws : List Value}, vs.length = n → zs.length = ks.length → Vals vs us → Vals zs ws → Vals (g vs zs) (g us ws)
variable {kws : List Keyword} {tk : TA} {n : Nat} {ks : List Str} {g : ∀ {α : Type}, List α → List α → List α}
def tCallW (n m : Nat) (sp : Sp) (g : ∀ {α : Type}, List α → List α → List α) (E : XK) (t tk : TA) : TE := fun σ H Q => t σ H fun vs H1 => tk σ H1 fun zs H2 => vs.length = n ∧ zs.length = m ∧ sp (g vs zs) H2 Q E
theorem pe_callW0 (F : FnG X.prog X.w X.K X.mg X.base CX k f fd ps sp) (hA : X.A.guards = some []) (hr : Room k X.A) (hg : Gl X x) (hm : X.mg x = some (.ref f)) (hk : PySem.W.keepIn X.K (.ref f) = true) (hb : KwB X.K fd ps 0 ks g) (hx : Passes CX X E) (hkw : PK X kws tk)
    (hall : (backToKw pos (keywordEach kws X.env)).all (·.1.isSome) = true := by rfl) (hks : (backToKw pos (keywordEach kws X.env)).filterMap (·.1) = ks := by rfl) (hdb : (x == ("__debug__" : Str)) = false := by decide)
    (hpl : ((backTo pos (starEach [] X.env)).any (·.1) || (backToKw pos (keywordEach kws X.env)).any (·.1.isNone)) = false := by rfl) : PE X (.Call (.Name x p) [] kws pos) (tCallW 0 ks.length sp g E tNil tk) := by
  constructor
  intro pins s σ H Q I h
  refine wpAny_Call_Name_kw (ld_glob I hg hm (PySem.W.callWith_KW0 (h₀ := X.base) I.ok.mod.kin hk hall (thn (hkw.run pos pins s σ H _ I h) ?_) hpl) hdb)
  rintro ws s2 ⟨zs, H2, I2, rz, l1, l2, q2⟩
  rw [hks]
  exact ⟨I2.kIn, runG F hA hr (hb.to s2 [] ws I2.kIn rfl (rz.length.symm.trans l2)) hx I2 (hb.rel (vs := []) rfl l2 .nil rz) q2⟩
end
end Pz
set_option maxRecDepth 100000
namespace Pz
open PySem PySem.Spec PyProof.Rows L2 TL
variable [TabC]
section
variable {X : Cx} {E : WXs} {Z0 : Zs} {a b c e : Expr} {es : List Expr} {ta tb tc te : DE} {t : DA} {pos p : Pos} {x : Str}
def wNil : DA := fun _ _ st Q => Q [] st
def wCons (te : DE) (t : DA) : DA := fun Ed sl st Q => te Ed sl st fun x st => t Ed sl st fun xs st => Q (x :: xs) st
theorem da_nil : DAs X E [] wNil := ⟨paI pa_nil fun σ H Q ⟨Z, sl, Qd, Ed, h, ok, so, w, k, kx⟩ => by
  subst h
  exact k Z [] [] (.refl ok) ok .nil w⟩
theorem cons_ok {σ : L2.St} {H : Hp} {Q : List V → Hp → Prop} (h : upA X.K E (wCons te t) σ H Q) : tCons (upE X.K E te) (upA X.K E t) σ H Q := by
  obtain ⟨Z, sl, Qd, Ed, h, ok, so, w, k, kx⟩ := h
  refine ⟨Z, sl, _, Ed, h, ok, so, w, fun Z1 v s l1 ok1 r1 w1 => ?_, kx⟩
  refine ⟨Z1, sl, _, Ed, rfl, ok1, so.tr l1, w1, fun Z2 vs ss l2 ok2 r2 w2 => ?_, kx.le l1⟩
  exact k Z2 (v :: vs) (s :: ss) (l1.trans l2) ok2 (.cons (r1.tr l2) r2) w2
theorem da_cons (ha : DEx X E e te) (hr : DAs X E es t) (hs : starEach (e :: es) X.env = (false, eval e X.env) :: starEach es X.env := by rfl) : DAs X E (e :: es) (wCons te t) :=
  ⟨paI (pa_cons ha.run hr.run hs) fun _ _ _ h => cons_ok h⟩
structure DKs (X : Cx) (E : WXs) (ks : List Keyword) (τ : DA) : Prop where
  run : PK X ks (upA X.K E τ)
theorem dk_nil : DKs X E [] wNil := ⟨⟨fun po pins s σ H Q I h => pk_nil.run po pins s σ H Q I (by
  obtain ⟨Z, sl, Qd, Ed, h, ok, so, w, k, kx⟩ := h
  subst h
  exact k Z [] [] (.refl ok) ok .nil w)⟩⟩
theorem dk_cons {nm : Option Str} {kpos : Pos} {kws : List Keyword} (ha : DEx X E e te) (hr : DKs X E kws t) : DKs X E (⟨nm, e, kpos⟩ :: kws) (wCons te t) :=
  ⟨⟨fun po pins s σ H Q I h => (pk_cons ha.run hr.run).run po pins s σ H Q I (cons_ok h)⟩⟩
def wCall (dsp : DSp) (t : DA) : DE := fun Ed sl st Q => t Ed sl st fun ss st => locCall dsp ss st Q fun _ _ _ => False
variable {k n m : Nat} {f : Addr} {fd : FuncData} {ps ks : List Str} {dsp : DSp} {kws : List Keyword} {tk : DA}
theorem locCall_len {ss : List Sl} {st : Sto} {Q : DK} {Ed : DXF} (h : locCall dsp ss st Q Ed) (hl : ∀ ss cs Q Ed, dsp ss cs Q Ed → ss.length = n) : ss.length = n := by
  unfold locCall at h
  split at h
  · have := hl _ _ _ _ h.2
    simpa using this
  · exact h.elim
theorem de_call (F : FnD X.prog X.w X.K X.mg X.base CX0 k f fd ps dsp) (hA : X.A.guards = some []) (hr : Room k X.A) (hl : ∀ ss cs Q Ed, dsp ss cs Q Ed → ss.length = ps.length) (hg : Gl X x) (hm : X.mg x = some (.ref f)) (hk : PySem.W.keepIn X.K (.ref f) = true) (hb : Binds X.K fd ps [])
    (ha : DAs X E (e :: es) t) (hdb : (x == ("__debug__" : Str)) = false := by decide) (he : starEach (e :: es) X.env = (false, eval e X.env) :: starEach es X.env := by rfl) (hpl : (backTo pos (starEach es X.env)).any (·.1) = false := by rfl) :
    DEx X E (.Call (.Name x p) (e :: es) [] pos) (wCall dsp t) :=
  ⟨peI (pe_callG F hA hr hg hm hk hb pass0 ha.run hdb he hpl) fun σ H Q ⟨Z, sl, Qd, Ed, h, ok, so, w, kq, kx⟩ =>
    ⟨Z, sl, _, Ed, h, ok, so, w, fun Z1 vs ss l1 ok1 r1 w1 => by
      show toSp X.K ps.length dsp (vs ++ []) Z1.H Q E0
      rw [List.append_nil]
      exact loc_sp ok1 r1 (locCall_len w1 hl) w1 (kq.le l1) (fun _ _ _ _ _ _ _ _ _ z => z), kx⟩⟩
def wCallW (n m : Nat) (dsp : DSp) (g : ∀ {α : Type}, List α → List α → List α) (t tk : DA) : DE := fun Ed sl st Q => t Ed sl st fun ss st => tk Ed sl st fun zs st => ss.length = n ∧ zs.length = m ∧ locCall dsp (g ss zs) st Q fun _ _ _ => False
structure KwD (K : Frag) (fd : FuncData) (ps : List Str) (n : Nat) (ks : List Str) (g : ∀ {α : Type}, List α → List α → List α) : Prop where
  kb : KwB K fd ps n ks g
  rp : ∀ {Z : Zs} {vs zs : List V} {ss us : List Sl}, ss.length = n → us.length = ks.length → RpAll K Z vs ss → RpAll K Z zs us → RpAll K Z (g vs zs) (g ss us)
variable {g : ∀ {α : Type}, List α → List α → List α}
abbrev FA := List Sl → Sto → DK → Prop
def CallD (K : Frag) (r : List V → Hp → VK → Prop) (f : FA) : Prop := ∀ (Z : Zs) (vs : List V) (ss : List Sl) (Qd : DK) (Q : VK), Ok K Z → RpAll K Z vs ss → f ss Z.st Qd → KOk K Z Qd Q → r vs Z.H Q
def wApp (f : FA) (t : DA) : DE := fun Ed sl st Q => t Ed sl st fun ss st => f ss st Q
theorem app_ok {r : List V → Hp → VK → Prop} {f : FA} (hd : CallD X.K r f) {σ : L2.St} {H : Hp} {Q : VK} (h : upE X.K E (wApp f t) σ H Q) : tCB r (upA X.K E t) σ H Q := by
  obtain ⟨Z, sl, Qd, Ed, h, ok, so, w, kq, kx⟩ := h
  exact ⟨Z, sl, _, Ed, h, ok, so, w, fun Z1 vs ss l1 ok1 r1 w1 => hd Z1 vs ss Qd Q ok1 r1 w1 (kq.le l1), kx⟩
theorem de_callB {id : String} {r : List V → Hp → VK → Prop} {f : FA} (hd : CallD X.K r f) (hc : CallR X (.builtin id) r) (hg : Gl X x) (hm : X.mg x = none) (hv : bootBuiltins x = some (.builtin id)) (ha : DAs X E (e :: es) t) (hn : x ≠ "__name__" := by decide) (hdb : (x == ("__debug__" : Str)) = false := by decide)
    (he : starEach (e :: es) X.env = (false, eval e X.env) :: starEach es X.env := by rfl) (hpl : (backTo pos (starEach es X.env)).any (·.1) = false := by rfl) : DEx X E (.Call (.Name x p) (e :: es) [] pos) (wApp f t) :=
  ⟨peI (pe_callB hc hg hm hv ha.run hn hdb he hpl) fun _ _ _ h => app_ok hd h⟩
theorem de_callTy {id : String} {r : List V → Hp → VK → Prop} {f : FA} (hd : CallD X.K r f) (hc : CallR X (.type id) r) (hg : Gl X x) (hm : X.mg x = none) (hv : bootBuiltins x = some (.type id)) (ha : DAs X E (e :: es) t) (hn : x ≠ "__name__" := by decide) (hdb : (x == ("__debug__" : Str)) = false := by decide)
    (he : starEach (e :: es) X.env = (false, eval e X.env) :: starEach es X.env := by rfl) (hpl : (backTo pos (starEach es X.env)).any (·.1) = false := by rfl) : DEx X E (.Call (.Name x p) (e :: es) [] pos) (wApp f t) :=
  ⟨peI (pe_callTy hc hg hm hv ha.run hn hdb he hpl) fun _ _ _ h => app_ok hd h⟩
def dsOf : List Sl → Option (List PyData)
  | [] => some []
  | .d x :: r => match dsOf r with
    | some ds => some (x :: ds)
    | none => none
  | .o _ :: _ => none
  | .r _ :: _ => none
  | .l _ _ _ :: _ => none
  | .f _ :: _ => none
theorem dsOf_ok {K : Frag} {Z : Zs} : ∀ {vs : List V} {ss : List Sl} {ds : List PyData}, RpAll K Z vs ss → dsOf ss = some ds → Z.ImAll K vs ds
  | _, _, ds, .nil, e => by simp only [dsOf, Option.some.injEq] at e; subst e; exact .nil
  | _, _, ds, .cons (s := .d x) p r, e => by
    simp only [dsOf] at e
    split at e
    · rename_i ds' e'
      simp only [Option.some.injEq] at e
      subst e
      exact .cons p (dsOf_ok r e')
    · cases e
  | _, _, ds, .cons (s := .o h) p r, e => by simp [dsOf] at e
  | _, _, ds, .cons (s := .r _) p r, e => by simp [dsOf] at e
  | _, _, ds, .cons (s := .l _ _ _) p r, e => by simp [dsOf] at e
  | _, _, ds, .cons (s := .f h) p r, e => by simp [dsOf] at e
def wLst (t : DA) : DE := fun Ed sl st Q => t Ed sl st fun ss st => match dsOf ss with
  | some ds => ds.length ≤ sizeLine ∧ Q (.d (.list ds)) st
  | none => False
def wTup (t : DA) : DE := fun Ed sl st Q => t Ed sl st fun ss st => match dsOf ss with
  | some ds => ds.length ≤ sizeLine ∧ Q (.d (.tuple ds)) st
  | none => False
def wLstO (t : DA) : DE := fun Ed sl st Q => t Ed sl st fun ss st => match dsOf ss with
  | some ds => ds.length ≤ sizeLine ∧ Q (.o st.length) (st ++ [.lst ds])
  | none => False
theorem de_lst (h : DAs X E es t) : DEx X E (.List es pos) (wLst t) := ⟨peI (pe_lst h.run) fun σ H Q ⟨Z, sl, Qd, Ed, h, ok, so, w, kq, kx⟩ =>
  ⟨Z, sl, _, Ed, h, ok, so, w, fun Z1 vs ss l1 ok1 r1 w1 => by
    simp only at w1
    split at w1
    · rename_i ds e
      have q := dsOf_ok r1 e
      exact ⟨by rw [q.length]; exact w1.1, (kq.le l1).newL ok1 q w1.2⟩
    · exact w1.elim, kx⟩⟩
theorem de_tup {x1 : Nat} (h : DAs X E es t) : DEx X E (.Tuple es x1 pos) (wTup t) := ⟨peI (pe_tup h.run) fun σ H Q ⟨Z, sl, Qd, Ed, h, ok, so, w, kq, kx⟩ =>
  ⟨Z, sl, _, Ed, h, ok, so, w, fun Z1 vs ss l1 ok1 r1 w1 => by
    simp only at w1
    split at w1
    · rename_i ds e
      have q := dsOf_ok r1 e
      exact ⟨by rw [q.length]; exact w1.1, (kq.le l1).newT ok1 q w1.2⟩
    · exact w1.elim, kx⟩⟩
def Zs.own (Z : Zs) (p : Addr) (o : HO) (c : Ct) : Zs := ⟨Z.φ ++ [p], Z.st ++ [c], upd Z.H p o, Z.F⟩
theorem app1_get {α : Type} {l : List α} {y z : α} {i : Nat} (h : (l ++ [y])[i]? = some z) : l[i]? = some z ∨ (i = l.length ∧ z = y) := by
  by_cases hi : i < l.length
  · rw [List.getElem?_append_left hi] at h; exact .inl h
  · rw [List.getElem?_append_right (by omega)] at h
    have : i - l.length = 0 := by
      have := (List.getElem?_eq_some_iff.mp h).1
      simp at this
      omega
    rw [this] at h
    simp at h
    exact .inr ⟨by omega, h.symm⟩
section
variable {K : Frag} {Z : Zs} {q : Addr} {o : HO} {ct : Ct}
theorem Ok.leOwn (ok : Ok K Z) (n : Z.H q = none) : Le Z (Z.own q o ct) where
  pre := ⟨[q], rfl, fun a h => by have : a = q := by simpa using h
                                  subst this; exact n⟩
  len := ok.len.symm
  liv := fun h c e => ⟨c, by show (Z.st ++ [ct])[h]? = _; rw [List.getElem?_append_left (List.getElem?_eq_some_iff.mp e).1]; exact e, Iff.rfl⟩
  frm := fun a u e _ _ => upd_keep n e
  fgn := rfl
  dom := fun a u e => ⟨u, upd_keep n e⟩
theorem Ok.own (ok : Ok K Z) (n : Z.H q = none) (hc : CtOk K (Z.own q o ct) q ct) (ho : NotTbl o := by exact fun _ z => nomatch z) : Ok K (Z.own q o ct) where
  len := by show (Z.φ ++ [q]).length = (Z.st ++ [ct]).length; rw [List.length_append, List.length_append, ok.len]; rfl
  nd := List.nodup_append.mpr ⟨ok.nd, by simp, fun a ha b hb z => by
    have : b = q := by simpa using hb
    subst this z
    exact ok.fresh n ha⟩
  ct := fun h a c e1 e2 => by
    have e1' : (Z.φ ++ [q])[h]? = some a := e1
    have e2' : (Z.st ++ [ct])[h]? = some c := e2
    rcases app1_get e1' with e1' | ⟨e1', z1⟩
    · rcases app1_get e2' with e2' | ⟨e2', z2⟩
      · exact ctok_st (ok.leOwn n).stay (fun q => q.tr (ok.leOwn n)) (fun u e _ => upd_keep n e) (fun u e => ⟨u, upd_keep n e⟩) (ok.ct h a c e1' e2')
      · have := (List.getElem?_eq_some_iff.mp e1').1
        rw [ok.len] at this
        omega
    · rcases app1_get e2' with e2' | ⟨e2', z2⟩
      · have := (List.getElem?_eq_some_iff.mp e2').1
        rw [← ok.len] at this
        omega
      · subst z1 z2
        exact hc
  fo := fun a h => let ⟨u, e⟩ := ok.fo a h; ⟨u, upd_keep n e⟩
  fd := fun a m f => by
    rcases List.mem_append.mp (show a ∈ Z.φ ++ [q] from m) with m | m
    · exact ok.fd a m f
    · have : a = q := by simpa using m
      subst this
      obtain ⟨o, e⟩ := ok.fo a f
      rw [n] at e; cases e
  tb := tabs_new ok.tb n (ok.leOwn (o := o) (ct := ct) n).w ho fun xs e w => by
    have eq : (Z.own q o ct).H q = some (.tup xs) := by rw [← e]; exact upd_same
    rcases w with ⟨i, c, e1, e2, lv⟩ | w
    · have e1' : (Z.φ ++ [q])[i]? = some q := e1
      have e2' : (Z.st ++ [ct])[i]? = some c := e2
      rcases app1_get e1' with e1' | ⟨e1', z1⟩
      · exact ok.fresh n (List.mem_of_getElem? e1')
      · rcases app1_get e2' with e2' | ⟨e2', z2⟩
        · have := (List.getElem?_eq_some_iff.mp e2').1
          rw [← ok.len] at this
          omega
        · subst z2
          exact hc.notup lv xs eq
    · obtain ⟨u, e⟩ := ok.fo q w
      rw [n] at e; cases e
theorem KOk.ownL {Qd : DK} {Q : VK} (k : KOk K Z Qd Q) (ok : Ok K Z) {xs : List V} {ds : List PyData} (r : Z.ImAll K xs ds) (w : Qd (.o Z.st.length) (Z.st ++ [.lst ds])) : ∀ p, Z.H p = none → Q (.ref p) (upd Z.H p (.lst xs)) := fun p n => by
  have l := ok.leOwn (o := .lst xs) (ct := .lst ds) n
  refine k (Z.own p (.lst xs) (.lst ds)) (.ref p) (.o Z.st.length) l (ok.own n ⟨xs, upd_same, ImAll.tr l.stay r⟩) ⟨p, .lst ds, rfl, ?_, ?_, trivial⟩ w
  · show (Z.φ ++ [p])[Z.st.length]? = _
    rw [← ok.len, List.getElem?_append_right (Nat.le_refl _)]
    simp
  · show (Z.st ++ [Ct.lst ds])[Z.st.length]? = _
    rw [List.getElem?_append_right (Nat.le_refl _)]
    simp
end
theorem de_lstO (h : DAs X E es t) : DEx X E (.List es pos) (wLstO t) := ⟨peI (pe_lst h.run) fun σ H Q ⟨Z, sl, Qd, Ed, h, ok, so, w, kq, kx⟩ =>
  ⟨Z, sl, _, Ed, h, ok, so, w, fun Z1 vs ss l1 ok1 r1 w1 => by
    simp only at w1
    split at w1
    · rename_i ds e
      have q := dsOf_ok r1 e
      exact ⟨by rw [q.length]; exact w1.1, (kq.le l1).ownL ok1 q w1.2⟩
    · exact w1.elim, kx⟩⟩
end
end Pz
set_option maxRecDepth 100000
namespace Pz
open PySem PySem.Spec PyProof.Rows L2 TL
variable [TabC]
section
variable {X : Cx} {E : WXs} {Z0 : Zs} {a b c e : Expr} {es : List Expr} {ta tb tc te : DE} {t : DA} {pos p : Pos} {x : Str} {K : Frag}
theorem rp1 {Z : Zs} {vs : List V} {s : Sl} (r : RpAll K Z vs [s]) : ∃ v, vs = [v] ∧ Rp K Z v s := by
  cases r with
  | cons p r => cases r; exact ⟨_, rfl, p⟩
theorem rp2 {Z : Zs} {vs : List V} {s t : Sl} (r : RpAll K Z vs [s, t]) : ∃ v u, vs = [v, u] ∧ Rp K Z v s ∧ Rp K Z u t := by
  cases r with
  | cons p r => obtain ⟨u, rfl, q⟩ := rp1 r; exact ⟨_, u, rfl, p, q⟩
def fLen : FA := fun ss st Q => match ss with
  | [s] => match vw st s with
    | some (.list ds) => Q (.d (.int ds.length)) st
    | some (.tuple ds) => Q (.d (.int ds.length)) st
    | some (.str z) => z.length ≤ sizeLine ∧ Q (.d (.int z.length)) st
    | _ => False
  | _ => False
theorem cd_len : CallD K (fun xs H Q => ∃ x n, xs = [x] ∧ LenV K x H n ∧ Q (.int n) H) fLen := by
  intro Z vs ss Qd Q ok ra w k
  unfold fLen at w
  split at w
  · obtain ⟨v, rfl, r⟩ := rp1 ra
    split at w
    · rename_i ds e
      obtain ⟨a, xs, rfl, h, q⟩ := r.list ok e
      exact ⟨_, ds.length, rfl, .inl ⟨xs, .of h, q.length.symm⟩, k.now ok (.int _) w⟩
    · rename_i ds e
      obtain ⟨a, xs, rfl, h, q⟩ := r.tuple e
      exact ⟨_, ds.length, rfl, .inr ⟨xs, h.sq, q.length.symm⟩, k.now ok (.int _) w⟩
    · rename_i z e
      obtain rfl := r.str e
      exact ⟨_, z.length, rfl, ⟨w.1, rfl⟩, k.now ok (.int _) w.2⟩
    · exact w.elim
  · exact w.elim
def fAbs : FA := fun ss st Q => match ss with
  | [s] => match vw st s with
    | some (.int i) => Q (.d (.int (if i < 0 then -i else i))) st
    | _ => False
  | _ => False
theorem cd_abs : CallD K (fun xs H Q => ∃ i, xs = [.int i] ∧ Q (.int (if i < 0 then -i else i)) H) fAbs := by
  intro Z vs ss Qd Q ok ra w k
  unfold fAbs at w
  split at w
  · obtain ⟨v, rfl, r⟩ := rp1 ra
    split at w
    · rename_i i e
      obtain rfl := r.int e
      exact ⟨i, rfl, k.now ok (.int _) w⟩
    · exact w.elim
  · exact w.elim
def fInt : FA := fun ss st Q => match ss with
  | [s] => match vw st s with
    | some (.int i) => Q (.d (.int i)) st
    | some (.bool b) => Q (.d (.int (if b then 1 else 0))) st
    | _ => False
  | _ => False
theorem cd_int : CallD K (fun xs H Q => (∃ i, xs = [.int i] ∧ Q (.int i) H) ∨ ∃ k, xs = [.bl k] ∧ Q (.int (if k then 1 else 0)) H) fInt := by
  intro Z vs ss Qd Q ok ra w k
  unfold fInt at w
  split at w
  · obtain ⟨v, rfl, r⟩ := rp1 ra
    split at w
    · rename_i i e
      obtain rfl := r.int e
      exact .inl ⟨i, rfl, k.now ok (.int _) w⟩
    · rename_i i e
      obtain rfl := r.bl e
      exact .inr ⟨i, rfl, k.now ok (.int _) w⟩
    · exact w.elim
  · exact w.elim
def asInts : List PyData → Option (List Int)
  | [] => some []
  | .int i :: r => match asInts r with
    | some ns => some (i :: ns)
    | none => none
  | .none :: _ => none
  | .bool _ :: _ => none
  | .str _ :: _ => none
  | .list _ :: _ => none
  | .tuple _ :: _ => none
  | .dict _ :: _ => none
theorem asInts_map : ∀ ns : List Int, asInts (ns.map PyData.int) = some ns
  | [] => rfl
  | n :: ns => by rw [List.map_cons, asInts, asInts_map ns]
theorem asInts_eq : ∀ {ds : List PyData} {ns : List Int}, asInts ds = some ns → ds = ns.map .int
  | [], ns, e => by simp only [asInts, Option.some.injEq] at e; subst e; rfl
  | .int i :: r, ns, e => by
    simp only [asInts] at e
    split at e
    · rename_i ns' e'
      simp only [Option.some.injEq] at e
      subst e
      rw [List.map_cons, ← asInts_eq e']
    · cases e
  | .none :: _, _, e => by simp [asInts] at e
  | .bool _ :: _, _, e => by simp [asInts] at e
  | .str _ :: _, _, e => by simp [asInts] at e
  | .list _ :: _, _, e => by simp [asInts] at e
  | .tuple _ :: _, _, e => by simp [asInts] at e
  | .dict _ :: _, _, e => by simp [asInts] at e
theorem im_ints {W : Addr → Prop} {H : Hp} : ∀ {vs : List V} {ns : List Int}, ImAll K W H vs (ns.map .int) → vs = ns.map V.int
  | vs, [], h => by cases h; rfl
  | vs, n :: ns, h => by
    cases h with
    | cons p r => cases p; rw [im_ints r]; rfl
theorem ints_im {W : Addr → Prop} {H : Hp} : ∀ (ns : List Int), ImAll K W H (ns.map V.int) (ns.map .int)
  | [] => .nil
  | n :: ns => .cons (.int n) (ints_im ns)
def lmax : List Int → Int
  | [] => 0
  | x :: r => r.foldl max x
def lmin : List Int → Int
  | [] => 0
  | x :: r => r.foldl min x
theorem foldl_max : ∀ (l : List Int) (x : Int), (l.foldl max x = x ∨ l.foldl max x ∈ l) ∧ x ≤ l.foldl max x ∧ ∀ y ∈ l, y ≤ l.foldl max x
  | [], x => by simp
  | y :: l, x => by
    obtain ⟨h1, h2, h3⟩ := foldl_max l (max x y)
    rw [List.foldl_cons]
    refine ⟨?_, by omega, fun z hz => ?_⟩
    · rcases h1 with h1 | h1
      · rw [h1]
        by_cases q : x ≤ y
        · right; rw [Int.max_eq_right q]; exact List.mem_cons_self
        · left; exact Int.max_eq_left (by omega)
      · exact .inr (List.mem_cons_of_mem _ h1)
    · rcases List.mem_cons.mp hz with e | hz
      · subst e; omega
      · exact h3 z hz
theorem lmax_mem {l : List Int} (h : 0 < l.length) : lmax l ∈ l ∧ ∀ y ∈ l, y ≤ lmax l := by
  cases l with
  | nil => simp at h
  | cons x r =>
    obtain ⟨h1, h2, h3⟩ := foldl_max r x
    refine ⟨?_, fun y hy => ?_⟩
    · show r.foldl max x ∈ _
      rcases h1 with h1 | h1
      · rw [h1]; exact List.mem_cons_self
      · exact List.mem_cons_of_mem _ h1
    · rcases List.mem_cons.mp hy with e | hy
      · subst e; exact h2
      · exact h3 y hy
def vwI (st : Sto) (s : Sl) : Option (List Int) := match vw st s with
  | some (.list ds) => asInts ds
  | _ => none
def fMax : FA := fun ss st Q => match ss with
  | [s] => match vwI st s with
    | some ns => 0 < ns.length ∧ Q (.d (.int (lmax ns))) st
    | none => False
  | [s, t] => match vw st s, vw st t with
    | some (.int i), some (.int j) => Q (.d (.int (max i j))) st
    | _, _ => False
  | _ => False
def fMin : FA := fun ss st Q => match ss with
  | [s] => match vwI st s with
    | some ns => 0 < ns.length ∧ Q (.d (.int (lmin ns))) st
    | none => False
  | [s, t] => match vw st s, vw st t with
    | some (.int i), some (.int j) => Q (.d (.int (min i j))) st
    | _, _ => False
  | _ => False
def fSum : FA := fun ss st Q => match ss with
  | [s] => match vwI st s with
    | some ns => Q (.d (.int ns.sum)) st
    | none => False
  | _ => False
def asBools : List PyData → Option (List Bool)
  | [] => some []
  | .bool i :: r => match asBools r with
    | some ns => some (i :: ns)
    | none => none
  | .none :: _ => none
  | .int _ :: _ => none
  | .str _ :: _ => none
  | .list _ :: _ => none
  | .tuple _ :: _ => none
  | .dict _ :: _ => none
def vwB (st : Sto) (s : Sl) : Option (List Bool) := match vw st s with
  | some (.list ds) => asBools ds
  | _ => none
def fAll : FA := fun ss st Q => match ss with
  | [s] => match vwB st s with
    | some ns => Q (.d (.bool (ns.all id))) st
    | none => False
  | _ => False
def fAny : FA := fun ss st Q => match ss with
  | [s] => match vwB st s with
    | some ns => Q (.d (.bool (ns.any id))) st
    | none => False
  | _ => False
def fList : FA := fun ss st Q => match ss with
  | [s] => match vw st s with
    | some (.list ds) => Q (.d (.list ds)) st
    | some (.tuple ds) => Q (.d (.list ds)) st
    | _ => False
  | _ => False
def fListO : FA := fun ss st Q => match ss with
  | [s] => match vw st s with
    | some (.list ds) => Q (.o st.length) (st ++ [.lst ds])
    | some (.tuple ds) => Q (.o st.length) (st ++ [.lst ds])
    | _ => False
  | _ => False
def fTuple : FA := fun ss st Q => match ss with
  | [s] => match vw st s with
    | some (.list ds) => Q (.d (.tuple ds)) st
    | some (.tuple ds) => Q (.d (.tuple ds)) st
    | _ => False
  | _ => False
theorem cd_tuple : CallD K (fun xs H Q => ∃ p ys, xs = [.ref p] ∧ ((SqL K H p ys ∧ ∀ l, H l = none → Q (.ref l) (upd H l (.tup ys))) ∨ (SqT K H p ys ∧ Q (.ref p) H))) fTuple := by
  intro Z vs ss Qd Q ok ra w k
  unfold fTuple at w
  split at w
  · obtain ⟨v, rfl, r⟩ := rp1 ra
    split at w
    · rename_i ds e
      obtain ⟨a, xs, rfl, h, q⟩ := r.list ok e
      exact ⟨a, xs, rfl, .inl ⟨.of h, k.newT ok q w⟩⟩
    · rename_i ds e
      obtain ⟨a, xs, rfl, h, q⟩ := r.tuple e
      exact ⟨a, xs, rfl, .inr ⟨h.sq, k.now ok (.tup h q) w⟩⟩
    · exact w.elim
  · exact w.elim
def isort (ns : List Int) : List Int := ns.mergeSort fun a b => decide (a ≤ b)
theorem isort_perm (ns : List Int) : (isort ns).Perm ns := List.mergeSort_perm _ _
theorem isort_le (ns : List Int) : (isort ns).Pairwise (· ≤ ·) := by
  have := List.pairwise_mergeSort (le := fun a b : Int => decide (a ≤ b)) (by intro a b c; simp; omega) (by intro a b; simp; omega) ns
  exact this.imp fun h => by simpa using h
theorem isort_eq {ns ms : List Int} (h1 : ms.Perm ns) (h2 : ms.Pairwise (· ≤ ·)) : ms = isort ns :=
  List.Perm.eq_of_pairwise (le := (· ≤ ·)) (fun a b _ _ h h' => Int.le_antisymm h h') h2 (isort_le ns) (h1.trans (isort_perm ns).symm)
def fSorted : FA := fun ss st Q => match ss with
  | [s] => match vwI st s with
    | some ns => Q (.d (.list ((isort ns).map .int))) st
    | none => False
  | _ => False
theorem call_reprD (hA : X.A.guards = some []) (hu : X.A.units + 64 < cLine) : CallR X (.builtin "repr") (fun xs H Q => ∃ x d, xs = [x] ∧ Dp X.K H x d ∧ d.showable = true ∧ d.hasDict = false ∧ d.depth ≤ 60 ∧ d.shown.length ≤ sizeLine ∧ Q (.str d.shown) H) := by
  intro pins s σ H xs us Q I r h
  obtain ⟨x, d, rfl, hd, sh, hD, dp, sz, q⟩ := h
  obtain ⟨u, rfl, ru⟩ := vals1 r
  have fin : ∀ (h' : Heap) (t : Tok) (k : Nat), (∀ b o, s.heap.get? b = some o → h'.get? b = some o) → EP X pins σ Q (.str d.shown t) { s with heap := h', toks := k } := fun h' t k hk => ⟨.str d.shown, H, I.kept hk, ⟨_, rfl⟩, q⟩
  have fin0 : ∀ (t : Tok) (k : Nat), EP X pins σ Q (.str d.shown t) { s with toks := k } := fun t k => fin s.heap t k fun _ _ e => e
  cases hd with
  | non =>
    obtain rfl : u = Value.none := ru
    exact PySem.P.repr_of_none (fin0 _ _)
  | bl i =>
    obtain rfl : u = Value.bool i := ru
    exact PySem.P.repr_of_bool (fin0 _ _)
  | int i =>
    obtain ⟨t, rfl⟩ := ru
    exact PySem.P.repr_of_int (by simpa [PyData.showable] using sh) (fin0 _ _)
  | str i =>
    obtain ⟨t, rfl⟩ := ru
    exact PySem.P.repr_of_str (fin0 _ _) sz
  | lst h1 h2 =>
    obtain rfl := ru
    obtain ⟨as, rd⟩ := Dp.reads I _ _ _ (.lst h1 h2) rfl
    exact repr_of_reads' rd sh (PyData.noDict_hsm hD) hA (by omega) (fun _ _ e => e) (fun h' u tk hk => fin h' u tk hk) sz
  | tup h1 h2 =>
    obtain rfl := ru
    obtain ⟨as, rd⟩ := Dp.reads I _ _ _ (.tup h1 h2) rfl
    exact repr_of_reads' rd sh (PyData.noDict_hsm hD) hA (by omega) (fun _ _ e => e) (fun h' u tk hk => fin h' u tk hk) sz
def fRepr : FA := fun ss st Q => match ss with
  | [s] => match vw st s with
    | some d => d.showable = true ∧ d.hasDict = false ∧ d.depth ≤ 60 ∧ d.shown.length ≤ sizeLine ∧ Q (.d (.str d.shown)) st
    | none => False
  | _ => False
end
end Pz
set_option maxRecDepth 100000
namespace Pz
open PySem PySem.Spec PyProof.Rows L2 TL
variable [TabC]
section
variable {X : Cx} {E : WXs} {Z0 : Zs} {a b c e : Expr} {es : List Expr} {ta tb tc te : DE} {t : DA} {pos p : Pos} {x : Str} {K : Frag}
def oIx (s t : Sl) (st : Sto) (Q : DK) : Prop := match vw st s, vw st t with
  | some (.list ds), some (.int i) => match atI ds i with
    | some d => Q (.d d) st
    | none => False
  | some (.tuple ds), some (.int i) => match atI ds i with
    | some d => Q (.d d) st
    | none => False
  | some (.str z), some (.int i) => z.length ≤ sizeLine ∧ match atI (tl z) i with
    | some c => Q (.d (.str ⟨#[c]⟩)) st
    | none => False
  | _, _ => False
theorem im_at {W : Addr → Prop} {H : Hp} {xs : List V} {ds : List PyData} {i : Int} {d : PyData} (q : ImAll K W H xs ds) (e : atI ds i = some d) : ∃ v, atI xs i = some v ∧ Im K W H v d := by
  unfold atI at e ⊢
  rw [q.length]
  cases z : ixN ds.length i with
  | none => rw [z] at e; cases e
  | some j =>
    rw [z] at e
    exact q.get' e
theorem d2_ix : D2 K (rIx K) oIx := by
  intro Z v u s t Qd Q ok r1 r2 w k
  unfold oIx at w
  split at w
  · rename_i ds i e1 e2
    split at w
    · rename_i d ed
      obtain ⟨a, xs, rfl, h, q⟩ := r1.list ok e1
      obtain rfl := r2.int e2
      obtain ⟨v, ev, rv⟩ := im_at q ed
      exact .inl ⟨a, xs, i, v, rfl, rfl, .of h, ev, k.now ok rv w⟩
    · exact w.elim
  · rename_i ds i e1 e2
    split at w
    · rename_i d ed
      obtain ⟨a, xs, rfl, h, q⟩ := r1.tuple e1
      obtain rfl := r2.int e2
      obtain ⟨v, ev, rv⟩ := im_at q ed
      exact .inr (.inl ⟨a, xs, i, v, rfl, rfl, h.sq, ev, k.now ok rv w⟩)
    · exact w.elim
  · rename_i z i e1 e2
    obtain ⟨hz, w⟩ := w
    split at w
    · rename_i c ec
      obtain rfl := r1.str e1
      obtain rfl := r2.int e2
      exact .inr (.inr ⟨z, i, c, rfl, rfl, hz, ec, k.now ok (.str _) w⟩)
    · exact w.elim
  · exact w.elim
abbrev DO := DX → Sls → Sto → (Option Int → Sto → Prop) → Prop
structure DPo (X : Cx) (E : WXs) (e : Option Expr) (τ : DO) : Prop where
  run : PO X e fun σ H Q => ∃ (Z : Zs) (sl : Sls) (Qd : Option Int → Sto → Prop) (Ed : DX), Z.H = H ∧ Ok X.K Z ∧ SlOk X.K Z σ sl ∧ τ Ed sl Z.st Qd ∧ (∀ (Z' : Zs) (o : Option Int), Le Z Z' → Ok X.K Z' → Qd o Z'.st → Q o Z'.H) ∧ KXOk X.K Z Ed E
def wNoPart : DO := fun _ _ st Q => Q none st
def wPart (te : DE) : DO := fun Ed sl st Q => te Ed sl st fun s st => match vw st s with
  | some (.int i) => Q (some i) st
  | _ => False
theorem poI {e : Option Expr} {t t' : TO} (h : PO X e t) (i : ∀ σ H Q, t' σ H Q → t σ H Q) : PO X e t' := by
  obtain ⟨h⟩ := h
  constructor
  intros
  exact h _ _ _ _ _ (by assumption) (i _ _ _ (by assumption))
theorem dpo_none : DPo X E none wNoPart := ⟨poI po_none fun σ H Q ⟨Z, sl, Qd, Ed, h, ok, so, w, k, kx⟩ => by
  subst h
  exact k Z none (.refl ok) ok w⟩
theorem dpo_some (he : DEx X E e te) : DPo X E (some e) (wPart te) := ⟨poI (po_some he.run) fun σ H Q ⟨Z, sl, Qd, Ed, h, ok, so, w, k, kx⟩ =>
  ⟨Z, sl, _, Ed, h, ok, so, w, fun Z1 v s l1 ok1 r1 w1 => by
    simp only at w1
    split at w1
    · rename_i i e
      exact ⟨i, r1.int e, k Z1 _ l1 ok1 w1⟩
    · exact w1.elim, kx⟩⟩
def cutD (xs : List α) (lo hi : Option Int) : List α := (xs.drop (HT.sIx xs.length 0 lo)).take (HT.sIx xs.length xs.length hi - HT.sIx xs.length 0 lo)
def oSl (s : Sl) (lo hi : Option Int) (st : Sto) (Q : DK) : Prop := match s with
  | .f ns => Q (.d (.list ((cutD ns lo hi).map .int))) st
  | s => match vw st s with
    | some (.list ds) => Q (.d (.list (cutD ds lo hi))) st
    | some (.tuple ds) => Q (.d (.tuple (cutD ds lo hi))) st
    | some (.str z) => z.length ≤ sizeLine ∧ Q (.d (.str (cutS z lo hi))) st
    | _ => False
def rSl (K : Frag) : V → Option Int → Option Int → Hp → VK → Prop := fun x lo hi H Q => rSlL K x lo hi H Q ∨ rSlA K x lo hi H Q ∨ rSlS x lo hi H Q
theorem sl_any : SlR X (rSl X.K) := sl_list.or (sl_tupA.or sl_str)
theorem im_cut {W : Addr → Prop} {H : Hp} {xs : List V} {ds : List PyData} (q : ImAll K W H xs ds) (lo hi : Option Int) : ImAll K W H (cutV xs lo hi) (cutD ds lo hi) := by
  unfold cutV cutD
  rw [q.length]
  exact (q.drop _).take _
theorem cut_map (f : α → β) (xs : List α) (lo hi : Option Int) : cutD (xs.map f) lo hi = (cutD xs lo hi).map f := by
  unfold cutD
  rw [List.length_map, ← List.map_drop, ← List.map_take]
def wSl (te : DE) (tl th : DO) : DE := fun Ed sl st Q => te Ed sl st fun s st => tl Ed sl st fun lo st => th Ed sl st fun hi st => oSl s lo hi st Q
variable {lo hi : Option Expr} {tlo thi : DO} {p2 : Pos}
theorem oSl_ok {Z : Zs} {v : V} {s : Sl} {lo hi : Option Int} {Qd : DK} {Q : VK} (ok : Ok K Z) (r : Rp K Z v s) (w : oSl s lo hi Z.st Qd) (k : KOk K Z Qd Q) : rSl K v lo hi Z.H Q := by
  have gen : ∀ s', (∀ ns, s' ≠ .f ns) → Rp K Z v s' → oSl s' lo hi Z.st Qd → rSl K v lo hi Z.H Q := fun s' ne r w => by
    unfold oSl at w
    split at w
    · exact absurd rfl (ne _)
    · split at w
      · rename_i ds e1
        obtain ⟨a, xs, rfl, h, q⟩ := r.list ok e1
        exact .inl ⟨a, xs, rfl, .of h, k.newL ok (im_cut q lo hi) w⟩
      · rename_i ds e1
        obtain ⟨a, xs, rfl, h, q⟩ := r.tuple e1
        refine .inr (.inl ⟨a, xs, rfl, h.sq, fun z => ?_, fun _ => k.newT ok (im_cut q lo hi) w⟩)
        have e2 : cutD ds lo hi = ds := by
          unfold cutD
          rw [← q.length, z.1, z.2, List.drop_zero, Nat.sub_zero, q.length]
          exact List.take_length
        rw [e2] at w
        exact k.now ok (.tup h q) w
      · rename_i z e1
        obtain rfl := r.str e1
        exact .inr (.inr ⟨z, rfl, w.1, k.now ok (.str _) w.2⟩)
      · exact w.elim
  cases s with
  | f ns =>
    obtain ⟨a, rfl, h⟩ := r
    refine .inl ⟨a, ns.map V.int, rfl, h.sq, ?_⟩
    rw [show cutV (ns.map V.int) lo hi = (cutD ns lo hi).map V.int from cut_map V.int ns lo hi]
    exact k.newL ok (ints_im _) w
  | d x => exact gen (.d x) (fun _ z => nomatch z) r w
  | o h => exact gen (.o h) (fun _ z => nomatch z) r w
  | r u => exact gen (.r u) (fun _ z => nomatch z) r w
  | l a b c => exact gen (.l a b c) (fun _ z => nomatch z) r w
theorem de_slice (he : DEx X E e te) (hl : DPo X E lo tlo) (hh : DPo X E hi thi) : DEx X E (.Subscript e (.Slice lo hi none p2) pos) (wSl te tlo thi) :=
  ⟨peI (pe_slice sl_any he.run hl.run hh.run) fun σ H Q ⟨Z, sl, Qd, Ed, h, ok, so, w, k, kx⟩ =>
    ⟨Z, sl, _, Ed, h, ok, so, w, fun Z1 v s l1 ok1 r1 w1 =>
      ⟨Z1, sl, _, Ed, rfl, ok1, so.tr l1, w1, fun Z2 o l2 ok2 w2 =>
        ⟨Z2, sl, _, Ed, rfl, ok2, (so.tr l1).tr l2, w2, fun Z3 o' l3 ok3 w3 =>
          oSl_ok ok3 ((r1.tr l2).tr l3) w3 (k.le ((l1.trans l2).trans l3)), (kx.le l1).le l2⟩, kx.le l1⟩, kx⟩⟩
variable {A : DT} {B : DT} {rest : List Expr}
def wAnd (t u : DT) : DT := fun Ed sl st Q => t Ed sl st fun b st => if b = true then u Ed sl st Q else Q false st
def wOr (t u : DT) : DT := fun Ed sl st Q => t Ed sl st fun b st => if b = true then Q true st else u Ed sl st Q
def wNot (t : DT) : DT := fun Ed sl st Q => t Ed sl st fun b st => Q (!b) st
theorem DWs.dt {τ : DT} (h : DWs X E e τ) : DTs X E e τ := ⟨h.run.pt⟩
theorem dw_and1 (ha : DTs X E a A) : DWs X E (.BoolOp .And [a] pos) A := ⟨pw_and1 ha.run⟩
theorem dw_or1 (ha : DTs X E a A) : DWs X E (.BoolOp .Or [a] pos) A := ⟨pw_or1 ha.run⟩
theorem dw_and (ha : DTs X E a A) (hb : DWs X E (.BoolOp .And (b :: rest) pos) B) : DWs X E (.BoolOp .And (a :: b :: rest) pos) (wAnd A B) :=
  ⟨pwI (pw_and ha.run hb.run) fun σ H Q ⟨Z, sl, Qd, Ed, h, ok, so, w, k, kx⟩ => ⟨Z, sl, _, Ed, h, ok, so, w, fun Z1 b l1 ok1 w1 => by
    cases b with
    | true => exact ⟨Z1, sl, Qd, Ed, rfl, ok1, so.tr l1, w1, fun Z2 c l2 => k Z2 c (l1.trans l2), kx.le l1⟩
    | false => exact k Z1 false l1 ok1 w1, kx⟩⟩
theorem dw_or (ha : DTs X E a A) (hb : DWs X E (.BoolOp .Or (b :: rest) pos) B) : DWs X E (.BoolOp .Or (a :: b :: rest) pos) (wOr A B) :=
  ⟨pwI (pw_or ha.run hb.run) fun σ H Q ⟨Z, sl, Qd, Ed, h, ok, so, w, k, kx⟩ => ⟨Z, sl, _, Ed, h, ok, so, w, fun Z1 b l1 ok1 w1 => by
    cases b with
    | false => exact ⟨Z1, sl, Qd, Ed, rfl, ok1, so.tr l1, w1, fun Z2 c l2 => k Z2 c (l1.trans l2), kx.le l1⟩
    | true => exact k Z1 true l1 ok1 w1, kx⟩⟩
theorem dt_not (ha : DTs X E a A) : DTs X E (.UnaryOp .Not a pos) (wNot A) :=
  ⟨ptI (pt_not ha.run) fun σ H Q ⟨Z, sl, Qd, Ed, h, ok, so, w, k, kx⟩ => ⟨Z, sl, _, Ed, h, ok, so, w, fun Z1 b l1 ok1 w1 => k Z1 (!b) l1 ok1 w1, kx⟩⟩
def wAndV (ta tb : DE) : DE := fun Ed sl st Q => ta Ed sl st fun s st => match s with
  | .d (.bool b) => if b = true then tb Ed sl st Q else Q (.d (.bool false)) st
  | _ => False
def wOrV (ta tb : DE) : DE := fun Ed sl st Q => ta Ed sl st fun s st => match s with
  | .d (.bool b) => if b = true then Q (.d (.bool true)) st else tb Ed sl st Q
  | _ => False
def wNotV (ta : DE) : DE := fun Ed sl st Q => ta Ed sl st fun s st => match s with
  | .d (.bool b) => Q (.d (.bool (!b))) st
  | _ => False
theorem de_and1 (ha : DEx X E a ta) : DEx X E (.BoolOp .And [a] pos) ta := ⟨pe_one ha.run⟩
theorem de_and (ha : DEx X E a ta) (hb : DEx X E (.BoolOp .And (b :: rest) pos) tb) : DEx X E (.BoolOp .And (a :: b :: rest) pos) (wAndV ta tb) :=
  ⟨peI (pe_and ha.run hb.run) fun σ H Q ⟨Z, sl, Qd, Ed, h, ok, so, w, k, kx⟩ => ⟨Z, sl, _, Ed, h, ok, so, w, fun Z1 v s l1 ok1 r1 w1 => by
    simp only at w1
    split at w1
    · rename_i b
      cases r1
      refine ⟨b, rfl, ?_⟩
      cases b with
      | true => exact ⟨Z1, sl, Qd, Ed, rfl, ok1, so.tr l1, w1, k.le l1, kx.le l1⟩
      | false => exact (k.le l1).now ok1 (.bl false) w1
    · exact w1.elim, kx⟩⟩
def wIfE (t : DT) (ta tb : DE) : DE := fun Ed sl st Q => t Ed sl st fun b st => if b = true then ta Ed sl st Q else tb Ed sl st Q
theorem de_if (hc : DTs X E c A) (ha : DEx X E a ta) (hb : DEx X E b tb) : DEx X E (.IfExp c a b pos) (wIfE A ta tb) :=
  ⟨peI (pe_ifExp hc.run ha.run hb.run) fun σ H Q ⟨Z, sl, Qd, Ed, h, ok, so, w, k, kx⟩ => ⟨Z, sl, _, Ed, h, ok, so, w, fun Z1 b l1 ok1 w1 => by
    cases b with
    | true => exact ⟨Z1, sl, Qd, Ed, rfl, ok1, so.tr l1, w1, k.le l1, kx.le l1⟩
    | false => exact ⟨Z1, sl, Qd, Ed, rfl, ok1, so.tr l1, w1, k.le l1, kx.le l1⟩, kx⟩⟩
def truD (st : Sto) (s : Sl) : Option Bool := match vw st s with
  | some .none => some false
  | some (.bool b) => some b
  | some (.int i) => some (i != 0)
  | some (.str z) => if z.length ≤ sizeLine then some ((z.length : Int) != 0) else none
  | some (.list ds) => some (!ds.isEmpty)
  | some (.tuple ds) => some (!ds.isEmpty)
  | _ => none
theorem im_empty {W : Addr → Prop} {H : Hp} {xs : List V} {ds : List PyData} (q : ImAll K W H xs ds) : xs.isEmpty = ds.isEmpty := by cases q <;> rfl
theorem truD_ok {Z : Zs} (ok : Ok K Z) {v : V} {s : Sl} {b : Bool} (r : Rp K Z v s) (e : truD Z.st s = some b) : TruV K v Z.H b := by
  unfold truD at e
  split at e
  · rename_i e1; obtain rfl := r.non e1; simp only [Option.some.injEq] at e; exact (show b = false from e.symm)
  · rename_i e1; obtain rfl := r.bl e1; simp only [Option.some.injEq] at e; exact (show b = _ from e.symm)
  · rename_i e1; obtain rfl := r.int e1; simp only [Option.some.injEq] at e; exact e.symm
  · rename_i z e1
    obtain rfl := r.str e1
    split at e
    · rename_i hz; simp only [Option.some.injEq] at e; exact ⟨hz, e.symm⟩
    · cases e
  · rename_i ds e1
    obtain ⟨a, xs, rfl, h, q⟩ := r.list ok e1
    simp only [Option.some.injEq] at e
    exact .inl ⟨xs, .of h, by rw [im_empty q]; exact e.symm⟩
  · rename_i ds e1
    obtain ⟨a, xs, rfl, h, q⟩ := r.tuple e1
    simp only [Option.some.injEq] at e
    exact .inr (.inl ⟨xs, h.sq, by rw [im_empty q]; exact e.symm⟩)
  · cases e
def wTru (te : DE) : DT := fun Ed sl st Q => te Ed sl st fun s st => match truD st s with
  | some b => Q b st
  | none => False
theorem dt_tru (ha : DEx X E a ta) (he : ∀ whole, isTrue a X.env whole = (do let v ← whole; standAt a.pos; holding [v] (truthy v)) := by intro _; rfl) : DTs X E a (wTru ta) :=
  ⟨ptI (pt_truth ha.run he) fun σ H Q ⟨Z, sl, Qd, Ed, h, ok, so, w, k, kx⟩ => ⟨Z, sl, _, Ed, h, ok, so, w, fun Z1 v s l1 ok1 r1 w1 => by
    simp only at w1
    split at w1
    · rename_i b e
      exact ⟨b, truD_ok ok1 r1 e, k Z1 b l1 ok1 w1⟩
    · exact w1.elim, kx⟩⟩
def wChain (f g : Sl → Sl → Sto → DK → Prop) (ta tb tc : DE) : DE := fun Ed sl st Q => ta Ed sl st fun x st => tb Ed sl st fun y st => f x y st fun z st => match z with
  | .d (.bool b) => if b = true then tc Ed sl st fun w st => g y w st Q else Q (.d (.bool false)) st
  | _ => False
variable {op op' : CmpOp} {r r' : R2} {f g : Sl → Sl → Sto → DK → Prop}
def wNeg (ta : DE) : DE := fun Ed sl st Q => ta Ed sl st fun s st => match vw st s with
  | some (.int i) => Q (.d (.int (-i))) st
  | _ => False
theorem de_neg (ha : DEx X E a ta) : DEx X E (.UnaryOp .USub a pos) (wNeg ta) :=
  ⟨peI (pe_un un_neg ha.run) fun σ H Q ⟨Z, sl, Qd, Ed, h, ok, so, w, k, kx⟩ => ⟨Z, sl, _, Ed, h, ok, so, w, fun Z1 v s l1 ok1 r1 w1 => by
    simp only at w1
    split at w1
    · rename_i i e
      obtain rfl := r1.int e
      exact ⟨i, rfl, (k.le l1).now ok1 (.int _) w1⟩
    · exact w1.elim, kx⟩⟩
end
end Pz
set_option maxRecDepth 100000
namespace Pz
open PySem PySem.Spec PyProof.Rows L2 TL
variable [TabC]
section
variable {X : Cx} {E : WXs} {Z0 : Zs} {a b c e : Expr} {es : List Expr} {ta tb tc te : DE} {t : DA} {pos p : Pos} {x : Str} {K : Frag} {st : Stmt} {rest body : List Stmt} {u v : DS}
def wNext : DS := fun D sl st => D.nx sl st
def wSeq (t u : DS) : DS := fun D sl st => t { D with nx := u D } sl st
theorem dss_nil : DSs X E Z0 [] wNext := ⟨pssI pss_nil fun D σ H ⟨Z, sl, Dd, h, l0, ok, so, w, en⟩ => by
  subst h
  exact en.nx Z sl σ l0 ⟨fun _ _ e _ _ => e, fun _ _ _ n _ => n⟩ ok so w⟩
theorem dss_cons (h1 : DSt X E Z0 st u) (h2 : DSs X E Z0 rest v) : DSs X E Z0 (st :: rest) (wSeq u v) :=
  ⟨pssI (pss_cons h1.run h2.run) fun D σ H ⟨Z, sl, Dd, h, l0, ok, so, w, en⟩ =>
    ⟨Z, sl, _, h, l0, ok, so, w, ⟨fun Z1 sl1 σ1 l1 k1 ok1 so1 w1 => ⟨Z1, sl1, Dd, rfl, l1, ok1, so1, w1, en.at k1⟩, en.rt, en.ex, en.bk, en.ct⟩⟩⟩
theorem dss_one (h1 : DSt X E Z0 st u) : DSs X E Z0 [st] u := ⟨pss_one h1.run⟩
def wBreak : DS := fun D sl st => D.bk sl st
def wCont : DS := fun D sl st => D.ct sl st
def wExpr (te : DE) : DS := fun D sl st => te D.ex sl st fun _ st => D.nx sl st
theorem ds_expr (he : DEx X E e te) (hs : swapsWith e none pos.line X.env = pure false := by rfl) : DSt X E Z0 (.Expr e pos) (wExpr te) :=
  ⟨psI (ps_expr he.run hs) fun D σ H ⟨Z, sl, Dd, h, l0, ok, so, w, en⟩ =>
    ⟨Z, sl, _, Dd.ex, h, ok, so, w, fun Z1 v s l1 ok1 r1 w1 => en.nx Z1 sl σ (l0.trans l1) l1.stay ok1 (so.tr l1) w1, en.ex.le l0⟩⟩
def wRet (te : DE) : DS := fun D sl st => te D.ex sl st D.rt
theorem ds_ret (he : DEx X E e te) : DSt X E Z0 (.Return (some e) pos) (wRet te) :=
  ⟨psI (ps_ret he.run) fun D σ H ⟨Z, sl, Dd, h, l0, ok, so, w, en⟩ =>
    ⟨Z, sl, _, Dd.ex, h, ok, so, w, fun Z1 v s l1 ok1 r1 w1 => en.rt Z1 v s (l0.trans l1) ok1 r1 w1, en.ex.le l0⟩⟩
def wRetN : DS := fun D _ st => D.rt (.d .none) st
def wIf (t : DT) (u v : DS) : DS := fun D sl st => t D.ex sl st fun b st => if b = true then u D sl st else v D sl st
theorem ds_if {A : DT} {s1 s2 : List Stmt} (hc : DTs X E c A) (ha : DSs X E Z0 s1 u) (hb : DSs X E Z0 s2 v) : DSt X E Z0 (.If c s1 s2 pos) (wIf A u v) :=
  ⟨psI (ps_if hc.run ha.run hb.run) fun D σ H ⟨Z, sl, Dd, h, l0, ok, so, w, en⟩ =>
    ⟨Z, sl, _, Dd.ex, h, ok, so, w, fun Z1 b l1 ok1 w1 => by
      cases b with
      | true => exact ⟨Z1, sl, Dd, rfl, l0.trans l1, ok1, so.tr l1, w1, en.at l1.stay⟩
      | false => exact ⟨Z1, sl, Dd, rfl, l0.trans l1, ok1, so.tr l1, w1, en.at l1.stay⟩, en.ex.le l0⟩⟩
def wNever : DS := fun _ _ _ => False
def wSet (i : Nat) (te : DE) : DS := fun D sl st => te D.ex sl st fun s st => D.nx (sl.set i (some s)) st
theorem ds_set (i : Nat) {pos' : Pos} (hN : X.N.Nodup) (he : DEx X E e te) (hi : X.N[i]? = some x := by rfl) (hx : Loc X.env.scope x := by first | exact Or.inl rfl | exact Or.inr rfl) (hs : swapsWith e (some (.Name x pos')) pos.line X.env = pure false := by rfl) (hf : X.fn x = true ∨ X.env.scope.names.lookup x = some .local := by first | exact .inl rfl | exact .inr rfl) :
    DSt X E Z0 (.Assign [.Name x pos'] e pos) (wSet i te) :=
  ⟨psI (ps_set hN hi hx he.run hs hf) fun D σ H ⟨Z, sl, Dd, h, l0, ok, so, w, en⟩ =>
    ⟨Z, sl, _, Dd.ex, h, ok, so, w, fun Z1 v s l1 ok1 r1 w1 => en.nx Z1 (sl.set i (some s)) _ (l0.trans l1) l1.stay ok1 ((so.tr l1).set i r1) w1, en.ex.le l0⟩⟩
def wAug (i : Nat) (f : Sl → Sl → Sto → DK → Prop) (te : DE) : DS := fun D sl st => match nthS sl i with
  | some s => te D.ex sl st fun t st => f s t st fun z st => D.nx (sl.set i (some z)) st
  | none => False
def wWhileN (t : DT) (u : DS) (D : DEnds) : Nat → Sls → Sto → Prop
  | 0 => fun _ _ => False
  | n + 1 => fun sl st => t D.ex sl st fun b st => if b = true then u { D with nx := wWhileN t u D n, ct := wWhileN t u D n, bk := D.nx } sl st else D.nx sl st
def wWhile (t : DT) (u : DS) : DS := fun D sl st => ∃ n, wWhileN t u D n sl st
abbrev DG := Sl → Sls → Sto → (Sls → Sto → Prop) → Prop
abbrev DGL := List PyData → Sls → Sto → (Sls → Sto → Prop) → Prop
structure DGt (X : Cx) (tg : Expr) (is : List Nat) (g : DG) : Prop where
  run : PG X tg fun v σ H Q => ∃ (Z : Zs) (sl : Sls) (s : Sl) (Qd : Sls → Sto → Prop), Z.H = H ∧ Ok X.K Z ∧ SlOk X.K Z σ sl ∧ Rp X.K Z v s ∧ g s sl Z.st Qd ∧ ∀ (σ' : L2.St) (sl' : Sls), σ'.length = σ.length → (∀ j : Nat, j ∉ is → σ'[j]? = σ[j]?) → SlOk X.K Z σ' sl' → Qd sl' Z.st → Q σ' Z.H
structure DGs (X : Cx) (ts : List Expr) (is : List Nat) (g : DGL) : Prop where
  run : PGs X ts fun vs σ H Q => ∃ (Z : Zs) (sl : Sls) (ds : List PyData) (Qd : Sls → Sto → Prop), Z.H = H ∧ Ok X.K Z ∧ SlOk X.K Z σ sl ∧ Z.ImAll X.K vs ds ∧ g ds sl Z.st Qd ∧ ∀ (σ' : L2.St) (sl' : Sls), σ'.length = σ.length → (∀ j : Nat, j ∉ is → σ'[j]? = σ[j]?) → SlOk X.K Z σ' sl' → Qd sl' Z.st → Q σ' Z.H
theorem pgI {tg : Expr} {t t' : TG} (h : PG X tg t) (i : ∀ v σ H Q, t' v σ H Q → t v σ H Q) : PG X tg t' := ⟨fun pins s σ H v u Q I r q => h.run pins s σ H v u Q I r (i v σ H Q q)⟩
theorem pgsI {tg : List Expr} {t t' : TGs} (h : PGs X tg t) (i : ∀ v σ H Q, t' v σ H Q → t v σ H Q) : PGs X tg t' := ⟨fun pins s σ H v u Q I r q => h.run pins s σ H v u Q I r (i v σ H Q q)⟩
def gNm (i : Nat) : DG := fun s sl st Q => Q (sl.set i (some s)) st
theorem dg_name (i : Nat) (hN : X.N.Nodup) (hi : X.N[i]? = some x := by rfl) (hx : Loc X.env.scope x := by first | exact Or.inl rfl | exact Or.inr rfl) (hf : X.fn x = true ∨ X.env.scope.names.lookup x = some .local := by first | exact .inl rfl | exact .inr rfl) : DGt X (.Name x pos) [i] (gNm i) :=
  ⟨pgI (pg_name hN hi hx hf) fun v σ H Q ⟨Z, sl, s, Qd, h, ok, so, r, w, k⟩ => by
    subst h
    exact k _ _ (List.length_set) (fun j hj => List.getElem?_set_ne (by simpa using fun z => hj (by simp [z]))) (so.set i r) w⟩
def gNl : DGL := fun ds sl st Q => match ds with
  | [] => Q sl st
  | _ => False
def gCn (g : DG) (gs : DGL) : DGL := fun ds sl st Q => match ds with
  | d :: ds => g (.d d) sl st fun sl st => gs ds sl st Q
  | [] => False
theorem dgs_nil : DGs X [] [] gNl := ⟨pgsI pgs_nil fun vs σ H Q ⟨Z, sl, ds, Qd, h, ok, so, r, w, k⟩ => by
  subst h
  unfold gNl at w
  split at w
  · cases r
    exact ⟨rfl, k σ sl rfl (fun _ _ => rfl) so w⟩
  · exact w.elim⟩
theorem dgs_cons {e : Expr} {es : List Expr} {is js : List Nat} {g : DG} {gs : DGL} (h1 : DGt X e is g) (h2 : DGs X es js gs) (hs : (assignEach (e :: es) X.env).map (·.2) = assign e X.env :: (assignEach es X.env).map (·.2) := by rfl) : DGs X (e :: es) (is ++ js) (gCn g gs) :=
  ⟨pgsI (pgs_cons h1.run h2.run hs) fun vs σ H Q ⟨Z, sl, ds, Qd, h, ok, so, r, w, k⟩ => by
    subst h
    unfold gCn at w
    split at w
    · rename_i d ds
      cases r with
      | cons p r =>
        refine ⟨_, _, rfl, Z, sl, .d d, _, rfl, ok, so, p, w, fun σ1 sl1 e1 f1 so1 w1 => ?_⟩
        refine ⟨Z, sl1, ds, Qd, rfl, ok, so1, r, w1, fun σ2 sl2 e2 f2 so2 w2 => k σ2 sl2 (e2.trans e1) (fun j hj => ?_) so2 w2⟩
        rw [f2 j fun z => hj (List.mem_append_right _ z), f1 j fun z => hj (List.mem_append_left _ z)]
    · exact w.elim⟩
def gTp (n : Nat) (gs : DGL) : DG := fun s sl st Q => match vw st s with
  | some (.tuple ds) => ds.length = n ∧ gs ds sl st Q
  | _ => False
theorem dg_tup {es : List Expr} {is : List Nat} {gs : DGL} {kk n : Nat} (hc : X.calm = true) (h : DGs X es is gs) (hn : (assignEach es X.env).length = n := by rfl) (hst : (assignEach es X.env).findIdx? (·.1) = none := by rfl) : DGt X (.Tuple es kk pos) is (gTp n gs) :=
  ⟨pgI (pg_tup hc h.run hn hst) fun v σ H Q ⟨Z, sl, s, Qd, h, ok, so, r, w, k⟩ => by
    subst h
    unfold gTp at w
    split at w
    · rename_i ds e1
      obtain ⟨a, xs, rfl, h, q⟩ := r.tuple e1
      exact ⟨a, xs, rfl, h.sq, q.length.trans w.1, Z, sl, ds, Qd, rfl, ok, so, q, w.2, k⟩
    · exact w.elim⟩
def wAsg (te : DE) (g : DG) : DS := fun D sl st => te D.ex sl st fun s st => g s sl st D.nx
structure ItD (K : Frag) (J : It) (Z1 : Zs) (ds : List PyData) : Prop where
  go : ∀ Z, Kp Z1 Z → Ok K Z → ∀ i, i < ds.length → J.go i Z.H
  stop : ∀ Z, Kp Z1 Z → Ok K Z → J.stop ds.length Z.H
  yld : ∀ Z, Kp Z1 Z → Ok K Z → ∀ (i : Nat) v H' d, ds[i]? = some d → J.yld i Z.H v H' → ∃ Z', Le Z Z' ∧ Ok K Z' ∧ Z'.H = H' ∧ Z'.st = Z.st ∧ Z'.Im K v d
abbrev DI := DX → Sls → Sto → (List PyData → Sto → Prop) → Prop
def upI (K : Frag) (E : WXs) (ω : DI) : TI := fun σ H R => ∃ (Z : Zs) (sl : Sls) (Rd : List PyData → Sto → Prop) (Ed : DX), Z.H = H ∧ Ok K Z ∧ SlOk K Z σ sl ∧ ω Ed sl Z.st Rd ∧ (∀ (Z' : Zs) (J : It) (ds : List PyData), Le Z Z' → Ok K Z' → ItD K J Z' ds → Rd ds Z'.st → R J Z'.H) ∧ KXOk K Z Ed E
structure DIt (X : Cx) (E : WXs) (tg iter : Expr) (ω : DI) : Prop where
  run : PI X tg iter (upI X.K E ω)
theorem piI {tg iter : Expr} {t t' : TI} (h : PI X tg iter t) (i : ∀ σ H R, t' σ H R → t σ H R) : PI X tg iter t' := ⟨fun pins s σ H R I q => h.run pins s σ H R I (i σ H R q)⟩
def wForL (g : DG) (u : DS) (D : DEnds) : List PyData → Sls → Sto → Prop
  | [] => D.nx
  | d :: ds => fun sl st => g (.d d) sl st fun sl st => u { D with nx := wForL g u D ds, ct := wForL g u D ds, bk := D.nx } sl st
def wFor (ω : DI) (g : DG) (u : DS) : DS := fun D sl st => ω D.ex sl st fun ds st => wForL g u D ds sl st
theorem ds_for {tg iter : Expr} {is : List Nat} {ω : DI} {g : DG} (hp : PassesOwn (model X.prog X.w) X.A X.env X.xe) (hc : X.calm = true) (hi : DIt X E tg iter ω) (hg : DGt X tg is g) (hb : DSs X E Z0 body u)
    (hs : ∀ x, foldedSetIterable iter X.env x = pure x := by intro _; rfl) : DSt X E Z0 (.For tg iter body [] pos) (wFor ω g u) :=
  ⟨psI (ps_for hp hc hi.run hg.run hb.run hs) fun D σ H ⟨Z, sl, Dd, h, l0, ok, so, w, en⟩ => by
    refine ⟨Z, sl, _, Dd.ex, h, ok, so, w, fun Z1 J ds l1 ok1 it w1 => ?_, en.ex.le l0⟩
    refine ⟨fun i m σ H => m = ds.length - i ∧ i ≤ ds.length ∧ ∃ (Z2 : Zs) (sl2 : Sls), Z2.H = H ∧ Le Z0 Z2 ∧ Kp Z1 Z2 ∧ Ok X.K Z2 ∧ SlOk X.K Z2 σ sl2 ∧ wForL g u Dd (ds.drop i) sl2 Z2.st,
      ⟨ds.length, by simp, Nat.zero_le _, Z1, sl, rfl, l0.trans l1, ⟨fun _ _ e _ _ => e, fun _ _ _ n _ => n⟩, ok1, so.tr l1, w1⟩, ?_⟩
    rintro i m σ2 H2 ⟨rfl, hi, Z2, sl2, rfl, l2, k2, ok2, so2, w2⟩
    have kz := l1.stay.trans k2
    by_cases hlt : i < ds.length
    · rw [List.drop_eq_getElem_cons hlt] at w2
      refine .inr ⟨it.go Z2 k2 ok2 i hlt, fun σ' H' => ∃ (Z3 : Zs) (sl3 : Sls), Z3.H = H' ∧ Le Z0 Z3 ∧ Kp Z1 Z3 ∧ Ok X.K Z3 ∧ SlOk X.K Z3 σ' sl3 ∧ wForL g u Dd (ds.drop (i + 1)) sl3 Z3.st,
        fun σ' H' z => ⟨ds.length - (i + 1), by omega, rfl, hlt, z⟩, fun v H' y => ?_⟩
      obtain ⟨Z3, l3, ok3, rfl, est, rv⟩ := it.yld Z2 k2 ok2 i v H' _ (List.getElem?_eq_getElem hlt) y
      rw [← est] at w2
      refine ⟨Z3, sl2, .d ds[i], _, rfl, ok3, so2.tr l3, rv, w2, fun σ4 sl4 _ _ so4 w4 => ?_⟩
      have kw := k2.trans l3.stay
      have kv := kz.trans l3.stay
      exact ⟨Z3, sl4, _, rfl, l2.trans l3, ok3, so4, w4, ⟨fun Z5 sl5 σ5 l5 k5 ok5 so5 w5 => ⟨Z5, sl5, rfl, l5, kw.trans k5, ok5, so5, w5⟩, en.rt, en.ex.at kv, fun Z5 sl5 σ5 l5 k5 => en.nx Z5 sl5 σ5 l5 (kv.trans k5), fun Z5 sl5 σ5 l5 k5 ok5 so5 w5 => ⟨Z5, sl5, rfl, l5, kw.trans k5, ok5, so5, w5⟩⟩⟩
    · have e : i = ds.length := by omega
      subst e
      rw [List.drop_length] at w2
      exact .inl ⟨it.stop Z2 k2 ok2, en.nx Z2 sl2 σ2 l2 kz ok2 so2 w2⟩⟩
theorem it_list {tg iter : Expr} {pins : List (Addr × Obj)} {σ : L2.St} {H : Hp} {s : Shared} {R : It → Hp → Prop} {a : Addr} {xs : List V} (I : L2.Inv X pins σ H s) (h : SqL X.K H a xs) (q : R (Itl X.K a) H) : wpAny (model X.prog X.w) X.A (pyIter (.ref a)) (PIE X pins σ tg R) X.xe s := by
  obtain ⟨its, rv, p, hz⟩ := I.list h
  exact wpAny_pyIter_list p.isList (pi_one (tk := s.toks) I _ (turn_list a _) ⟨_, Heap.get?_push_size _ rfl, rfl, rfl⟩ q)
theorem it_tup {tg iter : Expr} {pins : List (Addr × Obj)} {σ : L2.St} {H : Hp} {s : Shared} {R : It → Hp → Prop} {a : Addr} {xs : List V} (I : L2.Inv X pins σ H s) (h : SqT X.K H a xs) (q : R (Itt X.K a) H) : wpAny (model X.prog X.w) X.A (pyIter (.ref a)) (PIE X pins σ tg R) X.xe s := by
  obtain ⟨its, rv, p, hz⟩ := I.tuple h
  exact wpAny_pyIter_tuple (show s.heap.IsTuple a its.toArray from p) (pi_one (tk := s.toks) I _ (turn_tuple a _) ⟨_, Heap.get?_push_size _ rfl, rfl, rfl⟩ q)
theorem it_str {tg iter : Expr} {pins : List (Addr × Obj)} {σ : L2.St} {H : Hp} {s : Shared} {R : It → Hp → Prop} {z : Str} {tk : Tok} (I : L2.Inv X pins σ H s) (q : R (Its z) H) : wpAny (model X.prog X.w) X.A (pyIter (.str z tk)) (PIE X pins σ tg R) X.xe s := by
  cases ha : z.cps.all (· < 128)
  · exact wpAny_pyIter_wide ha (pi_one (tk := s.toks) I _ (turn_str _ z tk "str_iterator" (.inr rfl)) ⟨_, Heap.get?_push_size _ rfl, rfl, rfl⟩ q)
  · exact wpAny_pyIter_ascii ha (pi_one (tk := s.toks) I _ (turn_str _ z tk "str_ascii_iterator" (.inl rfl)) ⟨_, Heap.get?_push_size _ rfl, rfl, rfl⟩ q)
def signs (z : Str) : List PyData := (tl z).map fun c => .str ⟨#[c]⟩
def wItE (te : DE) : DI := fun Ed sl st Q => te Ed sl st fun s st => match s with
  | .d (.list ds) => Q ds st
  | .d (.tuple ds) => Q ds st
  | .d (.str z) => Q (signs z) st
  | _ => False
theorem itd_list {Z1 : Zs} {a : Addr} {xs : List V} {ds : List PyData} (h : Z1.H a = some (.lst xs)) (n : ¬ Z1.W a) (r : Z1.ImAll K xs ds) : ItD K (Itl K a) Z1 ds where
  go := fun Z k ok i hi => ⟨xs, xs[i]'(by rw [r.length]; exact hi), .of (k.f _ _ h n), List.getElem?_eq_getElem _⟩
  stop := fun Z k ok => ⟨xs, .of (k.f _ _ h n), by rw [r.length]; exact Nat.le_refl _⟩
  yld := fun Z k ok i v H' d e y => by
    obtain ⟨rfl, y⟩ := y
    obtain ⟨v', e', r'⟩ := r.get' e
    have := (y xs (.of (k.f _ _ h n))).symm.trans e'
    cases this
    exact ⟨Z, .refl ok, ok, rfl, rfl, Im.tr k r'⟩
theorem itd_tup {Z1 : Zs} {a : Addr} {xs : List V} {ds : List PyData} (h : ImT K Z1.W Z1.H a xs) (r : Z1.ImAll K xs ds) : ItD K (Itt K a) Z1 ds where
  go := fun Z k ok i hi => ⟨xs, xs[i]'(by rw [r.length]; exact hi), (h.tr k).sq, List.getElem?_eq_getElem _⟩
  stop := fun Z k ok => ⟨xs, (h.tr k).sq, by rw [r.length]; exact Nat.le_refl _⟩
  yld := fun Z k ok i v H' d e y => by
    obtain ⟨rfl, y⟩ := y
    obtain ⟨v', e', r'⟩ := r.get' e
    have := (y xs (h.tr k).sq).symm.trans e'
    cases this
    exact ⟨Z, .refl ok, ok, rfl, rfl, Im.tr k r'⟩
theorem itd_str {Z1 : Zs} (z : Str) : ItD K (Its z) Z1 (signs z) where
  go := fun Z k ok i hi => by
    have : i < z.cps.size := by simpa [signs, tl] using hi
    exact this
  stop := fun Z k ok => by
    show z.cps.size ≤ (signs z).length
    simp [signs, tl]
  yld := fun Z k ok i v H' d e y => by
    obtain ⟨rfl, c, ec, rfl⟩ := y
    simp only [signs, List.getElem?_map, tl, Array.getElem?_toList, ec, Option.map_some, Option.some.injEq] at e
    subst e
    exact ⟨Z, .refl ok, ok, rfl, rfl, .str _⟩
theorem di_e {tg : Expr} (he : DEx X E e te) : DIt X E tg e (wItE te) :=
  ⟨⟨fun pins s σ H R I ⟨Z, sl, Rd, Ed, h, ok, so, w, k, kx⟩ => thn (he.run.run pins s σ H (fun v H1 => (∃ a xs, v = .ref a ∧ SqL X.K H1 a xs ∧ R (Itl X.K a) H1) ∨ (∃ a xs, v = .ref a ∧ SqT X.K H1 a xs ∧ R (Itt X.K a) H1) ∨ ∃ z, v = .str z ∧ R (Its z) H1) I ⟨Z, sl, _, Ed, h, ok, so, w, fun Z1 v s l1 ok1 r1 w1 => by
      simp only at w1
      split at w1
      · cases r1 with
        | lst h n r => exact .inl ⟨_, _, rfl, .of h, k Z1 _ _ l1 ok1 (itd_list h n r) w1⟩
      · cases r1 with
        | tup h r => exact .inr (.inl ⟨_, _, rfl, h.sq, k Z1 _ _ l1 ok1 (itd_tup h r) w1⟩)
      · rename_i z
        cases r1
        exact .inr (.inr ⟨z, rfl, k Z1 _ _ l1 ok1 (itd_str z) w1⟩)
      · exact w1.elim, kx⟩) fun v s1 ⟨y, H1, I1, r1, q1⟩ => by
    rcases q1 with ⟨a, xs, rfl, h1, q⟩ | ⟨a, xs, rfl, h1, q⟩ | ⟨z, rfl, q⟩
    · cases r1
      exact it_list (iter := e) I1 h1 q
    · cases r1
      exact it_tup (iter := e) I1 h1 q
    · obtain ⟨tk, rfl⟩ := r1
      exact it_str (iter := e) I1 q⟩⟩
def rng (lo : Int) (n : Nat) : List PyData := (List.range n).map fun i => .int (lo + (i : Nat))
theorem itd_rng {Z1 : Zs} (lo : Int) (n : Nat) : ItD K (Itr lo n) Z1 (rng lo n) where
  go := fun Z k ok i hi => by
    show i < n
    simpa [rng] using hi
  stop := fun Z k ok => by
    show n ≤ _
    simp [rng]
  yld := fun Z k ok i v H' d e y => by
    obtain ⟨rfl, rfl⟩ := y
    have hi : i < n := by
      have := (List.getElem?_eq_some_iff.mp e).1
      simpa [rng] using this
    simp only [rng, List.getElem?_map, List.getElem?_range hi, Option.map_some, Option.some.injEq] at e
    subst e
    exact ⟨Z, .refl ok, ok, rfl, rfl, .int _⟩
def wRng1 (t : DA) : DI := fun Ed sl st Q => t Ed sl st fun ss st => match ss with
  | [s] => match vw st s with
    | some (.int j) => -(2 ^ 62) ≤ j ∧ j < 2 ^ 62 ∧ Q (rng 0 j.toNat) st
    | _ => False
  | _ => False
theorem di_rng1 {tg : Expr} (hg : Gl X "range") (hm : X.mg "range" = none) (ha : DAs X E [a] t) (hs : starEach [a] X.env = [(false, eval a X.env)] := by rfl) : DIt X E tg (.Call (.Name "range" p) [a] [] pos) (wRng1 t) :=
  ⟨piI (pi_range1 hg hm ha.run hs) fun σ H R ⟨Z, sl, Rd, Ed, h, ok, so, w, k, kx⟩ => ⟨Z, sl, _, Ed, h, ok, so, w, fun Z1 vs ss l1 ok1 r1 w1 => by
    simp only at w1
    split at w1
    · obtain ⟨v, rfl, rv⟩ := rp1 r1
      split at w1
      · rename_i j ej
        obtain rfl := rv.int ej
        exact ⟨j, rfl, w1.1, w1.2.1, k Z1 _ _ l1 ok1 (itd_rng 0 j.toNat) w1.2.2⟩
      · exact w1.elim
    · exact w1.elim, kx⟩⟩
def wRng2 (t : DA) : DI := fun Ed sl st Q => t Ed sl st fun ss st => match ss with
  | [s, s'] => match vw st s, vw st s' with
    | some (.int i), some (.int j) => (-(2 ^ 62) ≤ i ∧ i < 2 ^ 62 ∧ -(2 ^ 62) ≤ j ∧ j < 2 ^ 62) ∧ Q (rng i (j - i).toNat) st
    | _, _ => False
  | _ => False
end
end Pz
set_option maxRecDepth 100000
namespace Pz
open PySem PySem.Spec PyProof.Rows L2 TL
variable [TabC]
def wipeS (sl : Sls) : List Nat → Sls
  | [] => sl
  | v :: vs => (wipeS sl vs).set v none
theorem wipe_get (σ : L2.St) : ∀ (vs : List Nat) (j : Nat), (wipe σ vs)[j]? = if j ∈ vs ∧ j < σ.length then some none else σ[j]?
  | [], j => by simp [wipe]
  | v :: vs, j => by
    unfold wipe
    by_cases e : v = j
    · subst e
      by_cases hl : v < σ.length
      · rw [List.getElem?_set_self (by rw [wipe_length]; exact hl), if_pos ⟨by simp, hl⟩]
      · rw [if_neg (fun h => hl h.2), List.getElem?_eq_none (by rw [List.length_set, wipe_length]; omega), List.getElem?_eq_none (by omega)]
    · rw [List.getElem?_set_ne e, wipe_get σ vs j]
      have : j ∈ v :: vs ↔ j ∈ vs := by simp [Ne.symm e]
      simp only [this]
theorem wipe_same {σ τ : L2.St} {vs : List Nat} (hl : τ.length = σ.length) (h : ∀ j, j ∉ vs → τ[j]? = (wipe σ vs)[j]?) : wipe τ vs = wipe σ vs := by
  refine List.ext_getElem? fun j => ?_
  rw [wipe_get τ, wipe_get σ, hl]
  by_cases hj : j ∈ vs
  · by_cases hlt : j < σ.length
    · rw [if_pos ⟨hj, hlt⟩, if_pos ⟨hj, hlt⟩]
    · rw [if_neg (fun h => hlt h.2), if_neg (fun h => hlt h.2), List.getElem?_eq_none (by omega), List.getElem?_eq_none (by omega)]
  · rw [if_neg (fun h => hj h.1), if_neg (fun h => hj h.1), h j hj, wipe_get, if_neg (fun h => hj h.1)]
theorem SlOk.wipe {K : Frag} {Z : Zs} {σ : L2.St} {sl : Sls} (so : SlOk K Z σ sl) : ∀ vs, SlOk K Z (wipe σ vs) (wipeS sl vs)
  | [] => so
  | v :: vs => by
    have ih := SlOk.wipe so vs
    unfold wipeS L2.wipe
    refine ⟨by rw [List.length_set, List.length_set]; exact ih.len, fun i s e => ?_⟩
    by_cases hi : v = i
    · subst hi
      rcases Nat.lt_or_ge v (wipeS sl vs).length with q | q
      · rw [List.getElem?_set_self q] at e; cases e
      · rw [List.getElem?_eq_none (by simpa using q)] at e; cases e
    · rw [List.getElem?_set_ne hi] at e
      obtain ⟨u, q, r⟩ := ih.has i s e
      exact ⟨u, by rw [List.getElem?_set_ne hi]; exact q, r⟩
structure DPt (X : Cx) (E : WXs) (ifs : List Expr) (τ : DT) : Prop where
  run : PTs X ifs (upT X.K E τ)
def wYes : DT := fun _ _ st Q => Q true st
section
variable {X : Cx} {E : WXs} {Z0 : Zs} {a b c e : Expr} {es : List Expr} {ta tb tc te : DE} {t : DA} {pos p : Pos} {x : Str} {K : Frag} {A : DT}
theorem dpt_nil : DPt X E [] wYes := ⟨⟨fun pins s σ H Q I ⟨Z, sl, Qd, Ed, h, ok, so, w, k, kx⟩ => pts_nil.run pins s σ H Q I (by
  subst h
  exact k Z true (.refl ok) ok w)⟩⟩
theorem dpt_one (h : DTs X E c A) : DPt X E [c] A := ⟨pts_one h.run⟩
def wLcL (g : DG) (tt : DT) (te : DE) (sl : Sls) : List PyData → List PyData → Sto → (List PyData → Sto → Prop) → Prop
  | [], acc => fun st Q => Q acc st
  | d :: ds, acc => fun st Q => g (.d d) sl st fun sl2 st => tt (fun _ _ _ _ => False) sl2 st fun b st => if b = true then te (fun _ _ _ _ => False) sl2 st fun s st => match s with
      | .d y => acc.length < sizeLine ∧ wLcL g tt te sl ds (acc ++ [y]) st Q
      | _ => False
    else wLcL g tt te sl ds acc st Q
def wLc (ω : DI) (g : DG) (tt : DT) (te : DE) (vs : List Nat) : DE := fun Ed sl st Q => ω Ed sl st fun ds st => wLcL g tt te (wipeS sl vs) ds [] st fun acc st => Q (.d (.list acc)) st
def wLcO (ω : DI) (g : DG) (tt : DT) (te : DE) (vs : List Nat) : DE := fun Ed sl st Q => ω Ed sl st fun ds st => wLcL g tt te (wipeS sl vs) ds [] st fun acc st => Q (.o st.length) (st ++ [.lst acc])
abbrev Zs.wo (Z : Zs) (F : Addr → Prop) : Zs := ⟨Z.φ, Z.st, Z.H, F⟩
theorem Le.wo {Z Z' : Zs} (l : Le Z Z') (F : Addr → Prop) : Le (Z.wo F) (Z'.wo F) := ⟨l.pre, l.len, l.liv, l.frm, rfl, l.dom⟩
theorem rp_stay {Z Z' : Zs} (s : Stay Z.W Z'.W Z.H Z'.H) (eφ : Z'.φ = Z.φ) (es : Z'.st = Z.st) {v : V} {y : Sl} (r : Rp K Z v y) : Rp K Z' v y := by
  cases y with
  | d x => exact Im.tr s r
  | o h => obtain ⟨a, c, q1, q2, q3, q4⟩ := r; exact ⟨a, c, q1, by rw [eφ]; exact q2, by rw [es]; exact q3, q4⟩
  | r u => exact r
  | l _ _ _ => exact ⟨r.1, r.2.trans s⟩
  | f ns => obtain ⟨a, q1, q2⟩ := r; exact ⟨a, q1, q2.tr s⟩
theorem SlOk.stay {Z Z' : Zs} (s : Stay Z.W Z'.W Z.H Z'.H) (eφ : Z'.φ = Z.φ) (es : Z'.st = Z.st) {σ : L2.St} {sl : Sls} (so : SlOk K Z σ sl) : SlOk K Z' σ sl :=
  ⟨so.len, fun i y e => let ⟨v, q, r⟩ := so.has i y e; ⟨v, q, rp_stay s eφ es r⟩⟩
theorem Ok.stay {Z Z' : Zs} (s : Stay Z.W Z'.W Z.H Z'.H) (eφ : Z'.φ = Z.φ) (es : Z'.st = Z.st) (hH : ∀ a ∈ Z.φ, ∀ o, Z.H a = some o → Z'.H a = some o) (fo : ∀ a, Z'.F a → ∃ o, Z'.H a = some o) (fd : ∀ a ∈ Z.φ, ¬ Z'.F a) (tb : TabOk Z'.W Z'.H) (ok : Ok K Z) : Ok K Z' where
  len := by rw [eφ, es]; exact ok.len
  nd := by rw [eφ]; exact ok.nd
  ct := fun h a c e1 e2 => by
    rw [eφ] at e1
    rw [es] at e2
    exact ctok_st s (fun r => rp_stay s eφ es r) (fun o e _ => hH a (List.mem_of_getElem? e1) o e) (fun o e => ⟨o, hH a (List.mem_of_getElem? e1) o e⟩) (ok.ct h a c e1 e2)
  fo := fo
  fd := by rw [eφ]; exact fd
  tb := tb
theorem mk_new {Z : Zs} {D : Addr} {o : HO} (ok : Ok K Z) (n : Z.H D = none) : Stay Z.W (Zs.mk Z.φ Z.st (upd Z.H D o) fun a => Z.F a ∨ a = D).W Z.H (upd Z.H D o) :=
  ⟨fun b u e _ _ => upd_keep n e, fun b u e nw _ w => by
    rcases w with w | w | w
    · exact nw (.inl w)
    · exact nw (.inr w)
    · subst w; rw [n] at e; cases e⟩
theorem mk_upd {Z : Zs} {D : Addr} {o : HO} (hD : Z.W D) : Stay Z.W (Zs.mk Z.φ Z.st (upd Z.H D o) Z.F).W Z.H (upd Z.H D o) :=
  ⟨fun b u e nw _ => by
    rw [upd_ne (fun z => nw (by subst z; exact hD))]
    exact e, fun b u e nw _ => nw⟩
variable {elt tg iter : Expr} {ifs : List Expr} {scope : Scope} {own : List (Str × Nat)} {ω : DI} {is : List Nat} {g : DG} {tt : DT}
theorem lc_ok {wi : TI} {σ : L2.St} {H : Hp} {Q : VK} (hv : ∀ i ∈ is, i ∈ own.map (·.2)) (own? : Bool)
    (h : upE X.K E (fun Ed sl st Q => ω Ed sl st fun ds st => wLcL g tt te (wipeS sl (own.map (·.2))) ds [] st fun acc st => if own? = true then Q (.o st.length) (st ++ [.lst acc]) else Q (.d (.list acc)) st) σ H Q) :
    tLc (upI X.K E ω) (fun v σ H Q => ∃ (Z : Zs) (sl : Sls) (s : Sl) (Qd : Sls → Sto → Prop), Z.H = H ∧ Ok X.K Z ∧ SlOk X.K Z σ sl ∧ Rp X.K Z v s ∧ g s sl Z.st Qd ∧ ∀ (σ' : L2.St) (sl' : Sls), σ'.length = σ.length → (∀ j : Nat, j ∉ is → σ'[j]? = σ[j]?) → SlOk X.K Z σ' sl' → Qd sl' Z.st → Q σ' Z.H)
      (upT X.K W0 tt) (upE X.K W0 te) (own.map (·.2)) σ H Q := by
  obtain ⟨Z, sl, Qd, Ed, h, ok, so, w, kq, kx⟩ := h
  refine ⟨Z, sl, _, Ed, h, ok, so, w, fun Z1 J ds l1 ok1 it w1 D nD => ?_, kx⟩
  generalize hvs : own.map (·.2) = vs at *
  have so1 := so.tr l1
  have nW1 := ok1.nw nD
  let G : List PyData → Hp → Prop := fun rest H => ∃ (Z2 : Zs) (acc : List PyData) (xs : List V), Z2.H = H ∧ Le Z1 (Z2.wo Z1.F) ∧ Z2.F = (fun a => Z1.F a ∨ a = D) ∧ D ∉ Z2.φ ∧ Kp Z1 Z2 ∧ Ok X.K Z2 ∧ SlOk X.K Z2 σ sl ∧ Z2.H D = some (.lst xs) ∧ Z2.ImAll X.K xs acc ∧
    wLcL g tt te (wipeS sl vs) rest acc Z2.st fun acc st => if own? = true then Qd (.o st.length) (st ++ [.lst acc]) else Qd (.d (.list acc)) st
  refine ⟨fun i m H => m = ds.length - i ∧ i ≤ ds.length ∧ G (ds.drop i) H, ⟨ds.length, by simp, Nat.zero_le _, ?_⟩, ?_⟩
  · have sy := mk_new (o := .lst []) ok1 nD
    refine ⟨Zs.mk Z1.φ Z1.st (upd Z1.H D (.lst [])) fun a => Z1.F a ∨ a = D, [], [], rfl, ⟨⟨[], by simp, fun _ h => by cases h⟩, ok1.len.symm, fun h c e => ⟨c, e, Iff.rfl⟩, fun a u e _ _ => upd_keep nD e, rfl, fun a u e => ⟨u, upd_keep nD e⟩⟩, rfl, ok1.fresh nD, sy, ?_, so1.stay sy rfl rfl, upd_same, .nil, w1⟩
    refine ok1.stay sy rfl rfl (fun a m u e => upd_keep nD e) (fun a f => ?_) (fun a m f => ?_) ?_
    · rcases f with f | f
      · obtain ⟨u, e⟩ := ok1.fo a f
        exact ⟨u, upd_keep nD e⟩
      · subst f
        exact ⟨_, upd_same⟩
    · rcases f with f | f
      · exact ok1.fd a m f
      · subst f
        exact ok1.fresh nD m
    · refine tabs_new ok1.tb nD fun x w => ?_
      rcases w with w | w | w
      · exact .inl (.inl w)
      · exact .inl (.inr w)
      · subst w; exact .inr nD
  rintro i m H2 ⟨rfl, hi, Z2, acc, xs, rfl, l2, eF, nφ, k2, ok2, so2, hD, rx, w2⟩
  by_cases hlt : i < ds.length
  · rw [List.drop_eq_getElem_cons hlt] at w2
    refine .inr ⟨it.go Z2 k2 ok2 i hlt, fun H' => G (ds.drop (i + 1)) H', fun H' z => ⟨ds.length - (i + 1), by omega, rfl, hlt, z⟩, fun v H' y => ?_⟩
    obtain ⟨Z3, l3, ok3, rfl, est, rv⟩ := it.yld Z2 k2 ok2 i v H' _ (List.getElem?_eq_getElem hlt) y
    rw [← est] at w2
    have keep : ∀ {Z4 : Zs}, Le Z2 Z4 → Z4.H D = some (.lst xs) ∧ D ∉ Z4.φ ∧ Z4.F = (fun a => Z1.F a ∨ a = D) ∧ Le Z1 (Z4.wo Z1.F) ∧ Kp Z1 Z4 ∧ SlOk X.K Z4 σ sl ∧ Z4.ImAll X.K xs acc := fun {Z4} l4 => by
      refine ⟨l4.frm D _ hD (fun z => nφ z.mem) (fun _ z => nomatch z), fun z => ?_, l4.fgn.trans eF, l2.trans (l4.wo _), k2.trans l4.stay, so2.tr l4, ImAll.tr l4.stay rx⟩
      obtain ⟨ψ, e, hn⟩ := l4.pre
      rw [e] at z
      rcases List.mem_append.mp z with z | z
      · exact nφ z
      · have := hn D z
        rw [hD] at this
        cases this
    obtain ⟨d3, n3, f3, q3, k3, s3, i3⟩ := keep l3
    refine ⟨Z3, wipeS sl vs, .d ds[i], _, rfl, ok3, s3.wipe vs, rv, w2, fun σ' sl' e1 e2 so4 w4 => ?_⟩
    refine ⟨wipe_same (by rw [e1, wipe_length]) fun j hj => e2 j fun z => hj (hv j z), ?_⟩
    refine ⟨Z3, sl', _, _, rfl, ok3, so4, w4, fun Z4 b l4 ok4 w5 => ?_, fun _ _ _ _ _ _ _ _ _ _ _ _ z => z⟩
    cases b with
    | false =>
      obtain ⟨d4, n4, f4, q4, k4, s4, i4⟩ := keep (l3.trans l4)
      exact ⟨Z4, acc, xs, rfl, q4, f4, n4, k4, ok4, s4, d4, i4, w5⟩
    | true =>
      refine ⟨Z4, sl', _, _, rfl, ok4, so4.tr l4, w5, fun Z5 u s l5 ok5 r5 w6 => ?_, fun _ _ _ _ _ _ _ _ _ _ _ _ z => z⟩
      obtain ⟨d5, n5, f5, q5, k5, s5, i5⟩ := keep ((l3.trans l4).trans l5)
      simp only at w6
      split at w6
      · rename_i y
        have wD : Z5.W D := .inr (by rw [f5]; exact .inr rfl)
        have sy := mk_upd (o := .lst (xs ++ [u])) wD
        refine ⟨xs, d5, by rw [i5.length]; exact w6.1, Zs.mk Z5.φ Z5.st (upd Z5.H D (.lst (xs ++ [u]))) Z5.F, acc ++ [y], xs ++ [u], rfl, ?_, f5, n5, k5.trans sy, ?_, s5.stay sy rfl rfl, upd_same, (ImAll.tr sy i5).append (.cons (Im.tr sy r5) .nil), w6.2⟩
        · refine ⟨q5.pre, q5.len, q5.liv, fun a o e na nt => ?_, rfl, fun a o e => ?_⟩
          · have ne : a ≠ D := fun z => by subst z; rw [nD] at e; cases e
            show upd Z5.H D _ a = _
            rw [upd_ne ne]
            exact q5.frm a o e na nt
          · have ne : a ≠ D := fun z => by subst z; rw [nD] at e; cases e
            obtain ⟨o', e'⟩ := q5.dom a o e
            exact ⟨o', by show upd Z5.H D _ a = _; rw [upd_ne ne]; exact e'⟩
        · refine ok5.stay sy rfl rfl (fun a m o e => ?_) (fun a f => ?_) ok5.fd (tabs_upd ok5.tb (fun _ z => by rw [d5] at z; cases z) (fun _ _ z => by rw [d5] at z; cases z) (fun x w => .inl w))
          · show upd Z5.H D _ a = _
            rw [upd_ne (fun z => n5 (by subst z; exact m))]
            exact e
          · by_cases ne : a = D
            · subst ne; exact ⟨_, upd_same⟩
            · obtain ⟨o, e⟩ := ok5.fo a f
              exact ⟨o, by show upd Z5.H D _ a = _; rw [upd_ne ne]; exact e⟩
      · exact w6.elim
  · have ei : i = ds.length := by omega
    subst ei
    rw [List.drop_length] at w2
    refine .inl ⟨it.stop Z2 k2 ok2, ?_⟩
    have sy : Stay Z2.W (Z2.wo Z1.F).W Z2.H Z2.H := Stay.less fun a w => by
      rcases w with w | w
      · exact .inl w
      · exact .inr (by rw [eF]; exact .inl w)
    have okE : Ok X.K (Z2.wo Z1.F) := ok2.stay sy rfl rfl (fun a _ o e => e) (fun a f => by
      obtain ⟨o, e⟩ := ok1.fo a f
      exact l2.dom a o e) (fun a m f => ok2.fd a m (by rw [eF]; exact .inl f)) (ok2.tb.less fun a w => by
      rcases w with w | w
      · exact .inl w
      · exact .inr (by rw [eF]; exact .inl w))
    have nwD : ¬ (Z2.wo Z1.F).W D := fun w => by
      rcases w with w | w
      · exact nφ w.mem
      · exact nW1 (.inr w)
    have w2' : if own? = true then Qd (.o Z2.st.length) (Z2.st ++ [.lst acc]) else Qd (.d (.list acc)) Z2.st := w2
    cases own? with
    | false => exact kq (Z2.wo Z1.F) (.ref D) (.d (.list acc)) (l1.trans l2) okE (Im.lst hD nwD (ImAll.tr sy rx)) w2'
    | true =>
      rw [if_pos rfl] at w2'
      have hl := ok2.len
      refine kq (Zs.mk (Z2.φ ++ [D]) (Z2.st ++ [.lst acc]) Z2.H Z1.F) (.ref D) (.o Z2.st.length) (l1.trans ?_) ?_ ⟨D, .lst acc, rfl, ?_, ?_, trivial⟩ w2'
      · obtain ⟨ψ, e, hn⟩ := l2.pre
        refine ⟨⟨ψ ++ [D], by show Z2.φ ++ [D] = _; rw [show Z2.φ = Z1.φ ++ ψ from e, List.append_assoc], fun a m => ?_⟩, l2.len, fun h c e => ?_, l2.frm, rfl, l2.dom⟩
        · rcases List.mem_append.mp m with m | m
          · exact hn a m
          · have : a = D := by simpa using m
            subst this; exact nD
        · obtain ⟨c', q1, q2⟩ := l2.liv h c e
          exact ⟨c', by show (Z2.st ++ _)[h]? = _; rw [List.getElem?_append_left (List.getElem?_eq_some_iff.mp q1).1]; exact q1, q2⟩
      · have hW2 : ∀ a, (Zs.mk (Z2.φ ++ [D]) (Z2.st ++ [.lst acc]) Z2.H Z1.F).W a → Z2.W a := fun a w => by
          rcases w with ⟨j, c', p1, p2, p3⟩ | w
          · rcases app1_get (show (Z2.φ ++ [D])[j]? = some a from p1) with p1 | ⟨p1, z1⟩
            · rcases app1_get (show (Z2.st ++ [Ct.lst acc])[j]? = some c' from p2) with p2 | ⟨p2, z2⟩
              · exact .inl ⟨j, c', p1, p2, p3⟩
              · have := (List.getElem?_eq_some_iff.mp p1).1
                omega
            · subst z1
              exact .inr (by rw [eF]; exact .inr rfl)
          · exact .inr (by rw [eF]; exact .inl w)
        have sy2 : Stay Z2.W (Zs.mk (Z2.φ ++ [D]) (Z2.st ++ [.lst acc]) Z2.H Z1.F).W Z2.H Z2.H := Stay.less hW2
        have rp2 : ∀ {v : V} {y : Sl}, Rp X.K Z2 v y → Rp X.K (Zs.mk (Z2.φ ++ [D]) (Z2.st ++ [.lst acc]) Z2.H Z1.F) v y := fun {v y} r => by
          cases y with
          | d x => exact Im.tr sy2 r
          | o h =>
            obtain ⟨a, c, q1, q2, q3, q4⟩ := r
            exact ⟨a, c, q1, by show (Z2.φ ++ _)[h]? = _; rw [List.getElem?_append_left (List.getElem?_eq_some_iff.mp q2).1]; exact q2, by show (Z2.st ++ _)[h]? = _; rw [List.getElem?_append_left (List.getElem?_eq_some_iff.mp q3).1]; exact q3, q4⟩
          | r u => exact r
          | l _ _ _ => exact ⟨r.1, r.2.trans sy2⟩
          | f ns => obtain ⟨a, q1, q2⟩ := r; exact ⟨a, q1, q2.tr sy2⟩
        refine ⟨?_, List.nodup_append.mpr ⟨ok2.nd, by simp, fun a ha b hb z => ?_⟩, fun h a c e1 e2 => ?_, okE.fo, fun a m f => ?_, ok2.tb.less hW2⟩
        · show (Z2.φ ++ [D]).length = (Z2.st ++ [Ct.lst acc]).length
          rw [List.length_append, List.length_append, hl]
          rfl
        · have : b = D := by simpa using hb
          subst this z
          exact nφ ha
        · rcases app1_get (show (Z2.φ ++ [D])[h]? = some a from e1) with e1 | ⟨e1, z1⟩
          · rcases app1_get (show (Z2.st ++ [Ct.lst acc])[h]? = some c from e2) with e2 | ⟨e2, z2⟩
            · exact ctok_st sy2 rp2 (fun _ e _ => e) (fun o e => ⟨o, e⟩) (ok2.ct h a c e1 e2)
            · have := (List.getElem?_eq_some_iff.mp e1).1
              omega
          · rcases app1_get (show (Z2.st ++ [Ct.lst acc])[h]? = some c from e2) with e2 | ⟨e2, z2⟩
            · have := (List.getElem?_eq_some_iff.mp e2).1
              omega
            · subst z1 z2
              exact ⟨xs, hD, ImAll.tr sy2 rx⟩
        · rcases List.mem_append.mp (show a ∈ Z2.φ ++ [D] from m) with m | m
          · exact okE.fd a m f
          · have : a = D := by simpa using m
            subst this
            obtain ⟨o, e⟩ := ok1.fo a f
            rw [nD] at e; cases e
      · show (Z2.φ ++ [D])[Z2.st.length]? = _
        rw [← hl, List.getElem?_append_right (Nat.le_refl _)]
        simp
      · show (Z2.st ++ [Ct.lst acc])[Z2.st.length]? = _
        rw [List.getElem?_append_right (Nat.le_refl _)]
        simp
theorem de_lc (hc : X.calm = true) (hN : X.N.Nodup) (hi : DIt X E tg iter ω) (ok : BlkOk X.N X.env.scope scope own) (hv : ∀ i ∈ is, i ∈ own.map (·.2))
    (hg : ∀ (s : Shared) (H : Hp) (C : Addr) (cl : List (Str × Addr)) (fp : List Addr), DGt (X.blk s H scope (compEnvC scope cl C X.env) fp) tg is g) (ht : ∀ (s : Shared) (H : Hp) (C : Addr) (cl : List (Str × Addr)) (fp : List Addr), DPt (X.blk s H scope (compEnvC scope cl C X.env) fp) W0 ifs tt)
    (he : ∀ (s : Shared) (H : Hp) (C : Addr) (cl : List (Str × Addr)) (fp : List Addr), DEx (X.blk s H scope (compEnvC scope cl C X.env) fp) W0 elt te) (hs : ∀ x, foldedSetIterable iter X.env x = pure x := by intro _; rfl) : DEx X E (.ListComp elt [⟨tg, iter, ifs, 0⟩] scope pos) (wLc ω g tt te (own.map (·.2))) :=
  ⟨peI (pe_lc hc hN hi.run ok (fun s H C cl fp => (hg s H C cl fp).run) (fun s H C cl fp => (ht s H C cl fp).run) (fun s H C cl fp => (he s H C cl fp).run) hs) fun σ H Q h => lc_ok (wi := fun _ _ _ => True) hv false h⟩
theorem setLc_ok {st : Stmt} {wi : TE} {te : DE} {i : Nat} (h : PS X st (tAsg wi (gName i))) (hh : ∀ σ H Q, upE X.K E te σ H Q → wi σ H Q) : DSt X E Z0 st (wSet i te) :=
  ⟨psI h fun D σ H ⟨Z, sl, Dd, h, l0, ok, so, w, en⟩ => hh _ _ _ ⟨Z, sl, _, Dd.ex, h, ok, so, w, fun Z1 v s l1 ok1 r1 w1 => en.nx Z1 (sl.set i (some s)) _ (l0.trans l1) l1.stay ok1 ((so.tr l1).set i r1) w1, en.ex.le l0⟩⟩
theorem ds_setLc (i : Nat) {y : Str} {py spos : Pos} (hc : X.calm = true) (hN : X.N.Nodup) (hi : DIt X E tg iter ω) (ok : BlkOk X.N X.env.scope scope own) (hv : ∀ i ∈ is, i ∈ own.map (·.2))
    (hg : ∀ (s : Shared) (H : Hp) (C : Addr) (cl : List (Str × Addr)) (fp : List Addr), DGt (X.blk s H scope (compEnvC scope cl C X.env) fp) tg is g) (ht : ∀ (s : Shared) (H : Hp) (C : Addr) (cl : List (Str × Addr)) (fp : List Addr), DPt (X.blk s H scope (compEnvC scope cl C X.env) fp) W0 ifs tt)
    (he : ∀ (s : Shared) (H : Hp) (C : Addr) (cl : List (Str × Addr)) (fp : List Addr), DEx (X.blk s H scope (compEnvC scope cl C X.env) fp) W0 elt te) (hsw : swapsWith (.ListComp elt [⟨tg, iter, ifs, 0⟩] scope pos) (some (.Name y py)) spos.line X.env = pure true)
    (hs : ∀ x, foldedSetIterable iter X.env x = pure x := by intro _; rfl) (hy : X.N[i]? = some y := by rfl) (hyl : X.env.scope.names.lookup y = some .local := by rfl) : DSt X E Z0 (.Assign [.Name y py] (.ListComp elt [⟨tg, iter, ifs, 0⟩] scope pos) spos) (wSet i (wLc ω g tt te (own.map (·.2)))) :=
  setLc_ok (ps_setLc hc hN hy hyl hsw hi.run ok (fun s H C cl fp => (hg s H C cl fp).run) (fun s H C cl fp => (ht s H C cl fp).run) (fun s H C cl fp => (he s H C cl fp).run) hs) fun σ H Q h => lc_ok (wi := fun _ _ _ => True) hv false h
end
end Pz
set_option maxRecDepth 100000
namespace Pz
open PySem PySem.Spec PyProof.Rows L2 TL
variable [TabC]
section
variable {K : Frag} {Z : Zs} {h : Nat} {a : Addr} {c c' : Ct} {o : HO}
def Zs.put (Z : Zs) (h : Nat) (a : Addr) (o : HO) (c : Ct) : Zs := ⟨Z.φ, Z.st.set h c, upd Z.H a o, Z.F⟩
theorem Ok.one (ok : Ok K Z) {i j : Nat} (e1 : Z.φ[i]? = some a) (e2 : Z.φ[j]? = some a) : i = j := by
  have l1 := (List.getElem?_eq_some_iff.mp e1).1
  have l2 := (List.getElem?_eq_some_iff.mp e2).1
  rw [List.getElem?_eq_getElem l1] at e1
  rw [List.getElem?_eq_getElem l2] at e2
  exact (List.getElem_inj ok.nd).mp ((Option.some.inj e1).trans (Option.some.inj e2).symm)
theorem Ok.lePut (ok : Ok K Z) (e1 : Z.φ[h]? = some a) (e2 : Z.st[h]? = some c) (lv : c.live) (lv' : c'.live) : Le Z (Z.put h a o c') where
  pre := ⟨[], by simp [Zs.put], fun _ h => by cases h⟩
  len := ok.len.symm
  liv := fun j d e => by
    show ∃ d', (Z.st.set h c')[j]? = some d' ∧ _
    by_cases z : h = j
    · subst z
      rw [e2] at e
      cases e
      exact ⟨c', List.getElem?_set_self (List.getElem?_eq_some_iff.mp e2).1, ⟨fun _ => lv', fun _ => lv⟩⟩
    · exact ⟨d, by rw [List.getElem?_set_ne z]; exact e, Iff.rfl⟩
  frm := fun b u e nb _ => by
    show upd Z.H a o b = _
    rw [upd_ne (fun z => nb (by subst z; exact ⟨h, c, e1, e2, lv⟩))]
    exact e
  fgn := rfl
  dom := fun b u e => by
    show ∃ o', upd Z.H a o b = some o'
    by_cases z : b = a
    · subst z; exact ⟨_, upd_same⟩
    · exact ⟨u, by rw [upd_ne z]; exact e⟩
theorem Ok.put (ok : Ok K Z) (e1 : Z.φ[h]? = some a) (e2 : Z.st[h]? = some c) (lv : c.live) (lv' : c'.live) (new : CtOk K (Z.put h a o c') a c') (hw : c.wr := by trivial) (ho : NotTbl o := by exact fun _ z => nomatch z) : Ok K (Z.put h a o c') where
  len := by show Z.φ.length = (Z.st.set h c').length; rw [List.length_set]; exact ok.len
  nd := ok.nd
  ct := fun j b d q1 q2 => by
    have q1' : Z.φ[j]? = some b := q1
    have q2' : (Z.st.set h c')[j]? = some d := q2
    by_cases z : h = j
    · subst z
      rw [List.getElem?_set_self (List.getElem?_eq_some_iff.mp e2).1] at q2'
      cases q2'
      rw [e1] at q1'
      cases q1'
      exact new
    · rw [List.getElem?_set_ne z] at q2'
      have l := ok.lePut (o := o) e1 e2 lv lv'
      refine ctok_st l.stay (fun r => r.tr l) (fun u e _ => ?_) (fun u e => l.dom b u e) (ok.ct j b d q1' q2')
      show upd Z.H a o b = _
      rw [upd_ne (fun y => z (by subst y; exact ok.one e1 q1'))]
      exact e
  fo := fun b f => by
    obtain ⟨u, e⟩ := ok.fo b f
    exact (ok.lePut (o := o) (c' := c') e1 e2 lv lv').dom b u e
  fd := ok.fd
  tb := by
    have q := ok.ct h a c e1 e2
    refine tabs_upd ok.tb (fun ps z => ?_) (fun c0 q0 z => ?_) (ok.lePut (o := o) e1 e2 lv lv').w ho (fun xs e _ => new.notup lv' xs (by rw [← e]; exact upd_same))
    · cases c with
      | lst ds => obtain ⟨vs, z1, _⟩ := q; rw [z1] at z; cases z
      | lsS ds => obtain ⟨vs, z1, _⟩ := q; rw [z1] at z; cases z
      | dK kvs => obtain ⟨vs, z1, _⟩ := q; rw [z1] at z; cases z
      | dT kvs => obtain ⟨vs, z1, _⟩ := q; rw [z1] at z; cases z
      | dN fs => obtain ⟨us, z1, _⟩ := q; rw [z1] at z; cases z
      | ins C fs => obtain ⟨dx, us, z1, _⟩ := q; rw [z1] at z; cases z
      | exc c fs => exact hw.elim
      | dead => exact hw.elim
    · unfold LamX.CodeO at z
      cases c with
      | lst ds => obtain ⟨vs, z1, _⟩ := q; rw [z1] at z; cases z
      | lsS ds => obtain ⟨vs, z1, _⟩ := q; rw [z1] at z; cases z
      | dK kvs => obtain ⟨vs, z1, _⟩ := q; rw [z1] at z; cases z
      | dT kvs => obtain ⟨vs, z1, _⟩ := q; rw [z1] at z; cases z
      | dN fs => obtain ⟨us, z1, _⟩ := q; rw [z1] at z; exact nd_code (Option.some.inj z)
      | ins C fs => obtain ⟨dx, us, z1, _⟩ := q; rw [z1] at z; cases z
      | exc c fs => exact hw.elim
      | dead => exact hw.elim
theorem KOk.putL {Qd : DK} {Q : VK} {v : V} {s : Sl} {ds : List PyData} {xs : List V} (k : KOk K Z Qd Q) (ok : Ok K Z) (e1 : Z.φ[h]? = some a) (e2 : Z.st[h]? = some c) (lw : c.wr) (r : Z.ImAll K xs ds) (rv : ∀ {Z' : Zs}, Le Z Z' → Rp K Z' v s) (q : Qd s (Z.st.set h (.lst ds))) : Q v (upd Z.H a (.lst xs)) := by
  have lv : c.live := lw.live
  have l := ok.lePut (o := .lst xs) (c' := .lst ds) e1 e2 lv trivial
  exact k (Z.put h a (.lst xs) (.lst ds)) v s l (ok.put e1 e2 lv trivial ⟨xs, upd_same, ImAll.tr l.stay r⟩ lw) (rv l) q
theorem Rp.hl (ok : Ok K Z) {v : V} {h : Nat} {ds : List PyData} (r : Rp K Z v (.o h)) (e : Z.st[h]? = some (.lst ds)) : ∃ a xs, v = .ref a ∧ Z.φ[h]? = some a ∧ Z.H a = some (.lst xs) ∧ Z.ImAll K xs ds := by
  obtain ⟨a, c, ev, e1, e2, e3⟩ := r
  rw [e] at e2
  cases e2
  obtain ⟨xs, q, r⟩ := ok.ct h a _ e1 e
  exact ⟨a, xs, ev, e1, q, r⟩
end
section
variable {X : Cx} {E : WXs} {Z0 : Zs} {e ob ix : Expr} {es : List Expr} {to ti te : DE} {t : DA} {pos cpos apos tpos : Pos} {x name : Str} {K : Frag} {T id : String}
abbrev FM := Sl → List Sl → Sto → DK → Prop
def MetD (K : Frag) (r : V → List V → Hp → VK → Prop) (f : FM) : Prop := ∀ (Z : Zs) (v : V) (s : Sl) (vs : List V) (ss : List Sl) (Qd : DK) (Q : VK), Ok K Z → Rp K Z v s → RpAll K Z vs ss → f s ss Z.st Qd → KOk K Z Qd Q → r v vs Z.H Q
def tyD (T : String) (st : Sto) (s : Sl) : Prop := match vw st s with
  | some (.list _) => T = "list"
  | some (.str _) => T = "str"
  | _ => False
theorem tyD_ok {Z : Zs} (ok : Ok K Z) {v : V} {s : Sl} (r : Rp K Z v s) (h : tyD T Z.st s) : tyV K T v Z.H := by
  unfold tyD at h
  split at h
  · rename_i ds e
    obtain ⟨a, xs, rfl, q, _⟩ := r.list ok e
    exact .inl ⟨h, xs, .of q⟩
  · rename_i z e
    obtain rfl := r.str e
    exact h
  · exact h.elim
def wBM (T : String) (f : FM) (to : DE) (t : DA) : DE := fun Ed sl st Q => to Ed sl st fun s st => tyD T st s ∧ t Ed sl st fun ss st => f s ss st Q
theorem de_bm {r : V → List V → Hp → VK → Prop} {f : FM} (hd : MetD X.K r f) (pa : PlainAttrs T) (slot : Slot T name id) (hty : typeOf (.builtin id) = pure (.type "method_descriptor")) (hm : MtR X id r) (ho : DEx X E ob to) (ha : DAs X E (e :: es) t)
    (hbase : attributeBase ob name X.env (eval ob X.env) = eval ob X.env := by rfl)
    (hfew : ((backTo cpos (starEach (e :: es) X.env)).all (fun x => !x.1) && (backToKw cpos (keywordEach [] X.env)).all (fun x => x.1.isSome)
      && decide ((e :: es).length + ([] : List Keyword).length + (if ([] : List Keyword).isEmpty then 0 else 1) < 30)) = true := by rfl)
    (hline : (apos.endLine == cpos.line) = true := by rfl) (hs : starEach (e :: es) X.env = (false, eval e X.env) :: starEach es X.env := by rfl) (hplain : (backTo cpos (starEach es X.env)).any (·.1) = false := by rfl) :
    DEx X E (.Call (.Attribute ob name apos) (e :: es) [] cpos) (wBM T f to t) :=
  ⟨peI (pe_bm pa slot hty hm ho.run ha.run hbase hfew hline hs hplain) fun σ H Q ⟨Z, sl, Qd, Ed, h, ok, so, w, k, kx⟩ =>
    ⟨Z, sl, _, Ed, h, ok, so, w, fun Z1 v s l1 ok1 r1 w1 => ⟨tyD_ok ok1 r1 w1.1, Z1, sl, _, Ed, rfl, ok1, so.tr l1, w1.2, fun Z2 vs ss l2 ok2 r2 w2 => hd Z2 v s vs ss Qd Q ok2 (r1.tr l2) r2 w2 (k.le (l1.trans l2)), kx.le l1⟩, kx⟩⟩
theorem de_bm0 {r : V → List V → Hp → VK → Prop} {f : FM} (hd : MetD X.K r f) (pa : PlainAttrs T) (slot : Slot T name id) (hty : typeOf (.builtin id) = pure (.type "method_descriptor")) (hm : MtR X id r) (ho : DEx X E ob to)
    (hbase : attributeBase ob name X.env (eval ob X.env) = eval ob X.env := by rfl) (hline : (apos.endLine == cpos.line) = true := by rfl) : DEx X E (.Call (.Attribute ob name apos) [] [] cpos) (wBM T f to wNil) :=
  ⟨peI (pe_bm0 pa slot hty hm ho.run hbase hline) fun σ H Q ⟨Z, sl, Qd, Ed, h, ok, so, w, k, kx⟩ =>
    ⟨Z, sl, _, Ed, h, ok, so, w, fun Z1 v s l1 ok1 r1 w1 => ⟨tyD_ok ok1 r1 w1.1, hd Z1 v s [] [] Qd Q ok1 r1 .nil w1.2 (k.le l1)⟩, kx⟩⟩
def mAppend : FM := fun s ss st Q => match s, ss with
  | .o h, [.d y] => match st[h]? with
    | some (.lst ds) => ds.length < sizeLine ∧ Q (.d .none) (st.set h (.lst (ds ++ [y])))
    | _ => False
  | _, _ => False
theorem md_append : MetD K rAppend mAppend := by
  intro Z v s vs ss Qd Q ok rs ra w k
  unfold mAppend at w
  split at w
  · split at w
    · rename_i ds e
      obtain ⟨a, xs, rfl, e1, q, r⟩ := rs.hl ok e
      obtain ⟨u, rfl, ru⟩ := rp1 ra
      exact ⟨a, xs, u, rfl, rfl, q, by rw [r.length]; exact w.1, k.putL ok e1 e trivial (r.append (.cons ru .nil)) (s := .d .none) (fun _ => Im.non) w.2⟩
    · exact w.elim
  · exact w.elim
def mExtend : FM := fun s ss st Q => match s, ss with
  | .o h, [y] => match st[h]?, vw st y with
    | some (.lst ds), some (.list zs) => ds.length + zs.length ≤ sizeLine ∧ Q (.d .none) (st.set h (.lst (ds ++ zs)))
    | _, _ => False
  | _, _ => False
def mPop : FM := fun s ss st Q => match s, ss with
  | .o h, [] => match st[h]? with
    | some (.lst ds) => match ds[ds.length - 1]? with
      | some d => Q (.d d) (st.set h (.lst ds.dropLast))
      | none => False
    | _ => False
  | _, _ => False
def mReverse : FM := fun s ss st Q => match s, ss with
  | .o h, [] => match st[h]? with
    | some (.lst ds) => Q (.d .none) (st.set h (.lst ds.reverse))
    | _ => False
  | _, _ => False
theorem md_reverse : MetD K rReverse mReverse := by
  intro Z v s vs ss Qd Q ok rs ra w k
  unfold mReverse at w
  split at w
  · split at w
    · rename_i ds e
      obtain ⟨a, xs, rfl, e1, q, r⟩ := rs.hl ok e
      cases ra
      exact ⟨a, xs, rfl, rfl, q, k.putL ok e1 e trivial r.reverse (s := .d .none) (fun _ => Im.non) w⟩
    · exact w.elim
  · exact w.elim
def wSetIx (te to ti : DE) : DS := fun D sl st => te D.ex sl st fun v st => to D.ex sl st fun o st => ti D.ex sl st fun i st => match o, v, i with
  | .o h, .d y, .d (.int j) => match st[h]? with
    | some (.lst ds) => match ixN ds.length j with
      | some n => D.nx sl (st.set h (.lst (ds.set n y)))
      | none => False
    | _ => False
  | _, _, _ => False
theorem ds_setIx (he : DEx X E e te) (ho : DEx X E ob to) (hi : DEx X E ix ti)
    (ha : ∀ v, assign (.Subscript ob ix tpos) X.env v = (do
      let ov ← holding [v] (eval ob X.env)
      let iv ← holding [v, ov] (eval ix X.env)
      standAt tpos
      holding [v, ov, iv] (setItem ov iv v)
      release [v, ov, iv] []) := by intro _; rfl)
    (hs : swapsWithSole [.Subscript ob ix tpos] e pos.line X.env = pure false := by rfl) (hw : swappedStores [.Subscript ob ix tpos] e X.env = pure none := by rfl)
    (h1 : (assignEach [.Subscript ob ix tpos] X.env).map (·.2) = [assign (.Subscript ob ix tpos) X.env] := by rfl) : DSt X E Z0 (.Assign [.Subscript ob ix tpos] e pos) (wSetIx te to ti) :=
  ⟨psI (ps_asg he.run (pg_sub ho.run hi.run set_list ha) hs hw h1) fun D σ H ⟨Z, sl, Dd, h, l0, ok, so, w, en⟩ =>
    ⟨Z, sl, _, Dd.ex, h, ok, so, w, fun Z1 v s l1 ok1 r1 w1 => ⟨Z1, sl, _, Dd.ex, rfl, ok1, so.tr l1, w1, fun Z2 u t l2 ok2 r2 w2 => ⟨Z2, sl, _, Dd.ex, rfl, ok2, (so.tr l1).tr l2, w2, fun Z3 i y l3 ok3 r3 w3 => by
      simp only at w3
      split at w3
      · rename_i hh d j
        split at w3
        · rename_i ds es
          split at w3
          · rename_i n en'
            obtain ⟨a, xs, rfl, e1, q, r⟩ := (r2.tr l3).hl ok3 es
            obtain rfl : i = .int j := by cases r3; rfl
            refine ⟨a, xs, j, n, rfl, rfl, q, by rw [r.length]; exact en', ?_⟩
            have l := ok3.lePut (o := .lst (xs.set n v)) (c' := .lst (ds.set n d)) e1 es trivial trivial
            have lz := ((l1.trans l2).trans l3).trans l
            have rv : Z3.Im X.K v d := (r1.tr l2).tr l3
            exact en.nx (Z3.put hh a (.lst (xs.set n v)) (.lst (ds.set n d))) sl σ (l0.trans lz) lz.stay (ok3.put e1 es trivial trivial ⟨_, upd_same, ImAll.tr l.stay (r.set rv n)⟩) (so.tr lz) w3
          · exact w3.elim
        · exact w3.elim
      · exact w3.elim, (en.ex.le l0).le (l1.trans l2)⟩, (en.ex.le l0).le l1⟩, en.ex.le l0⟩⟩
def frzS (h : Nat) (ds : List PyData) : Option Sl → Option Sl
  | some (.o j) => if j = h then some (.d (.list ds)) else some (.o j)
  | s => s
def NoRef (h : Nat) : Ct → Prop
  | .ins _ fs => ∀ p ∈ fs, p.2 ≠ .o h
  | .lsS xs => ∀ x ∈ xs, x ≠ .o h
  | .dN kvs => ∀ p ∈ kvs, p.2 ≠ .o h
  | _ => True
def wFrz (n0 i : Nat) (u : DS) : DS := fun D sl st => match nthS sl i with
  | some (.o h) => match st[h]? with
    | some (.lst ds) => n0 ≤ h ∧ (∀ c ∈ st, NoRef h c) ∧ u D (sl.map (frzS h ds)) (st.set h .dead)
    | _ => False
  | _ => u D sl st
end
end Pz
set_option maxRecDepth 100000
namespace Pz
open PySem PySem.Spec PyProof.Rows L2 TL
variable [TabC]
theorem lawG {P : Program} {w : World} {K : Frag} {mg mb : Str → Option Value} {CX : CXT} {k : Nat} {fa a : Addr} {fd : FuncData} {x : Str} {sp : Sp} {s₁ : Shared} {vs : List Value} {ns : List Int}
    (KX : K.In s₁.heap) (hns : s₁.heap.Ns mainGlobals mg) (hb : s₁.heap.Ns builtinsNs mb) (hbb : ∀ x : Str, x ≠ "__name__" → mb x = bootBuiltins x) (hlim : s₁.heap.NoLimit) (hg : s₁.gens = #[])
    (ha : s₁.heap.get? a = some { cls := .type "list", data := .seq vs.toArray }) (hi : IntsAre vs ns) (hl : ns.length ≤ sizeLine) (hr : Room k callerA)
    (F : ∀ base : Heap, K.In base → base.Ns mainGlobals mg → FnG P w K mg base CX k fa fd [x] sp) (hbind : ∀ (s : Shared) (u : Value), BindsTo s fd ⟨[u], []⟩ [(x, u)])
    (hsp : ∀ H : Hp, Only H → SqL K H a (ns.map V.int) → sp [.ref a] H (fun v _ => v = .bl true) fun _ _ _ => False)
    (hCX : ∀ H e s', CX [] H s₁ (fun _ _ _ => False) e s' → False) :
    codeAny (model P w) callerA (.call (.ref fa) ⟨[.ref a], []⟩) (fun r s' => r = .ok (.ret (.bool true)) ∧ OldK s₁.heap s'.heap ∧ s'.os = s₁.os ∧ AllBare s'.gens) s₁ := by
  have vl := hi.length
  obtain ⟨H, hO, hS, hok, one⟩ : ∃ H : Hp, Only H ∧ SqL K H a (ns.map V.int) ∧ HOk P w H s₁.heap ∧ ∀ b o, H b = some o → b = a ∧ K.lookup a = none := by
    cases q : K.lookup a with
    | some o =>
      have e := KX a o q
      rw [ha] at e
      cases e
      exact ⟨fun _ => none, fun _ => .inl rfl, .inr ⟨_, vs.toArray, _, q, rfl, rfl, rfl, by simpa [vl] using hl, by simpa using vals_ints hi⟩, (fun b u (z : (none : Option HO) = some u) => by cases z), (fun b o (z : (none : Option HO) = some o) => by cases z)⟩
    | none =>
      have at_ : ∀ b u, (if b = a then some (HO.frz { cls := .type "list", data := .seq vs.toArray } (.lst (ns.map V.int))) else none) = some u → b = a ∧ u = .frz { cls := .type "list", data := .seq vs.toArray } (.lst (ns.map V.int)) := fun b u z => by
        split at z
        · rename_i e; cases z; exact ⟨e, rfl⟩
        · cases z
      refine ⟨fun b => if b = a then some (.frz { cls := .type "list", data := .seq vs.toArray } (.lst (ns.map V.int))) else none, fun b => ?_, .inl (.inr ⟨_, if_pos rfl⟩), fun b u z => ?_, fun b u z => ⟨(at_ b u z).1, rfl⟩⟩
      · by_cases e : b = a
        · exact .inr ⟨_, _, if_pos e⟩
        · exact .inl (if_neg e)
      · obtain ⟨rfl, rfl⟩ := at_ b u z
        exact ⟨ha, by simpa using hl, vs, _, vals_ints hi, ha⟩
  have kept : ∀ {b : Addr} {o : Obj}, s₁.heap.get? b = some o → H b = none → (hidT s₁.heap H).get? b = some o := fun e n => hidT_get e n
  have dict0 : ∀ {b : Addr} {o : Obj} {es : Array DictEntry} {ep : Nat}, s₁.heap.get? b = some o → o.data = .dict es ep → H b = none := fun {b o es ep} e d => by
    cases q : H b with
    | none => rfl
    | some u =>
      obtain ⟨rfl, _⟩ := one b u q
      rw [ha] at e
      cases e
      cases d
  have names : ∀ {b : Addr} {m : Str → Option Value}, s₁.heap.Ns b m → (hidT s₁.heap H).Ns b m := fun ⟨o, es, ep, e, d, r⟩ => ⟨o, es, ep, kept e (dict0 e d), d, r⟩
  have inK : K.In (hidT s₁.heap H) := fun b o e => kept (KX b o e) (by
    cases q : H b with
    | none => rfl
    | some u =>
      obtain ⟨rfl, z⟩ := one b u q
      rw [z] at e; cases e)
  have env : Env0 P w K mg (hidT s₁.heap H) callerA [] s₁ H := by
    obtain ⟨mc, z1, z2⟩ := hlim
    exact ⟨rfl, ⟨inK, names hns, ⟨mb, names hb, hbb⟩, ⟨mc, names z1, z2⟩⟩, (fun b o e => of_hidT e), Nat.le_of_eq (hidT_size _ _), trivial, (fun b (z : b ∈ ([] : List Addr)) => by cases z), hok, AllBare.of_eq hg⟩
  refine codeAny_mono ((F _ inK (names hns)).go callerA rfl hr [] s₁ H env ⟨[.ref a], []⟩ [.ref a] (hbind s₁ (.ref a)) [.ref a] _ _ (.cons rfl .nil) (hsp H hO hS)) ?_
  rintro (er | fl) s' z
  · exact (hCX H er s' z).elim
  · rcases fl with _ | _ | _ | u
    · exact z.elim
    · exact z.elim
    · exact z.elim
    · obtain ⟨v, H', os, bare, un, hok', r', rfl⟩ := z
      obtain rfl : u = Value.bool true := r'
      refine ⟨rfl, .of_keep fun b o e => ?_, os, bare⟩
      cases q : H b with
      | none => exact un.keep b o e q (fun z => by cases z) (fun z => by cases z)
      | some c =>
        rcases hO b with z | ⟨ob, xs, z⟩
        · rw [q] at z; cases z
        · obtain ⟨e1, _⟩ := hok b _ z
          obtain ⟨e2, _⟩ := hok' b _ (un.frzs b ob _ z)
          rw [e] at e1; cases e1
          exact e2
theorem walkG {l : PySem.W.OpenLaw} {n k : Nat} {q : Program} {loose : List Str} {XP : (Str → Option Value) → Heap → Prop} {YP : World → Heap → Prop} {d : DefRec} {K : Params → Frag} {CX : World → CXT} {x : Str} {law : DSp}
    (hn : l.most = some n) (hn2 : n ≤ sizeLine) (hdf : d.params.defaults = []) (hr : Room k callerA) (hY : ∀ (w : World) (h : Heap), YP w h → (K w.params).In h)
    (F : ∀ (w : World) (mg : Str → Option Value) (fa : Addr) (h : Heap), (K w.params).In h → h.Ns mainGlobals mg → mg d.name = some (.ref fa) →
      ∃ fd : FuncData, (∀ (s : Shared) (u : Value), BindsTo s fd ⟨[u], []⟩ [(x, u)]) ∧ ∀ base : Heap, (K w.params).In base → base.Ns mainGlobals mg → FnD l.prog w (K w.params) mg base (CX w) k fa fd [x] law)
    (hsp : ∀ ns : List Int, ns.length ≤ n → (∀ z ∈ ns, Builtin.Int.intBits z ≤ 1048576) → law [.f ns] [] (fun s _ => s = .d (.bool true)) fun _ _ _ => False)
    (hCX : ∀ (w : World) (H : Hp) (s : Shared) (e : Value) (s' : Shared), CX w [] H s (fun _ _ _ => False) e s' → False) (hT0 : TabC.T = [] := by rfl) : PySem.W.WalkO q loose XP YP l.row.toRowW d [] (fun f vs => PySem.call f vs) := by
  refine Att.attach_callB hn hdf fun w s₀ s₁ mg mb fa o pm cd doc a vs ns G Y ho hd hcd hmg hobj hints hlen hbits hg => ?_
  have KX := hY w _ Y
  obtain ⟨fd, hb, hF⟩ := F w mg fa _ KX G.T.g hmg
  refine lawG KX G.T.g G.T.b G.T.builtins G.T.nolimit hg hobj hints (Nat.le_trans hlen hn2) hr hF hb (fun H hO hS => ?_) fun H e s' => hCX w H s₁ e s'
  have tb0 : TabOk (Zs.mk [] [] H fun _ => False).W H := by
    refine ⟨by rw [hT0]; exact fun p hp => (by cases hp), fun b ps e => ?_, by rw [hT0]; exact fun p hp => (by cases hp), fun b xs _ w => (by
      rcases w with ⟨i, c, e, _⟩ | w
      · simp at e
      · exact w)⟩
    rcases hO b with z | ⟨o, xs, z⟩
    · rw [z] at e; cases e
    · rw [z] at e; cases e
  refine ⟨⟨[], [], H, fun _ => False⟩, [.f ns], _, _, rfl, ⟨rfl, .nil, fun h a c e => by simp at e, fun a z => z.elim, fun a m => (by cases m), tb0⟩, .cons ⟨a, rfl, ?_⟩ .nil, rfl, hsp ns hlen hbits, ?_, ?_⟩
  · rcases hS with r | r
    · exact .inl ⟨r, fun w => by
        rcases w with ⟨i, c, e, _⟩ | w
        · simp at e
        · exact w⟩
    · exact .inr r
  · rintro Z' v s l ok r rfl
    cases r
    rfl
  · intro Z' c xn d fs l ok x hcv z
    exact z
def sp0 (f : Sto → DK → DXF → Prop) : DSp := fun ss cs Q Ed => match ss with | [] => f cs Q Ed | _ => False
def sp1 (f : Sl → Sto → DK → DXF → Prop) : DSp := fun ss cs Q Ed => match ss with | [a] => f a cs Q Ed | _ => False
def sp2 (f : Sl → Sl → Sto → DK → DXF → Prop) : DSp := fun ss cs Q Ed => match ss with | [a, b] => f a b cs Q Ed | _ => False
def sp3 (f : Sl → Sl → Sl → Sto → DK → DXF → Prop) : DSp := fun ss cs Q Ed => match ss with | [a, b, c] => f a b c cs Q Ed | _ => False
def sp4 (f : Sl → Sl → Sl → Sl → Sto → DK → DXF → Prop) : DSp := fun ss cs Q Ed => match ss with | [a, b, c, d] => f a b c d cs Q Ed | _ => False
def sp5 (f : Sl → Sl → Sl → Sl → Sl → Sto → DK → DXF → Prop) : DSp := fun ss cs Q Ed => match ss with | [a, b, c, d, e] => f a b c d e cs Q Ed | _ => False
theorem l0 {f} : ∀ ss cs Q Ed, sp0 f ss cs Q Ed → ss.length = 0 := fun ss cs Q Ed h => by
  unfold sp0 at h; split at h <;> first | rfl | exact h.elim
theorem l1 {f} : ∀ ss cs Q Ed, sp1 f ss cs Q Ed → ss.length = 1 := fun ss cs Q Ed h => by
  unfold sp1 at h; split at h <;> first | rfl | exact h.elim
theorem l2 {f} : ∀ ss cs Q Ed, sp2 f ss cs Q Ed → ss.length = 2 := fun ss cs Q Ed h => by
  unfold sp2 at h; split at h <;> first | rfl | exact h.elim
theorem l3 {f} : ∀ ss cs Q Ed, sp3 f ss cs Q Ed → ss.length = 3 := fun ss cs Q Ed h => by
  unfold sp3 at h; split at h <;> first | rfl | exact h.elim
theorem l4 {f} : ∀ ss cs Q Ed, sp4 f ss cs Q Ed → ss.length = 4 := fun ss cs Q Ed h => by
  unfold sp4 at h; split at h <;> first | rfl | exact h.elim
theorem l5 {f} : ∀ ss cs Q Ed, sp5 f ss cs Q Ed → ss.length = 5 := fun ss cs Q Ed h => by
  unfold sp5 at h; split at h <;> first | rfl | exact h.elim
theorem i1 {f} {P : List Sl → Prop} {cs Q Ed} (k : ∀ a, f a cs Q Ed → P [a]) : ∀ ss, sp1 f ss cs Q Ed → P ss := fun ss h => by
  unfold sp1 at h; split at h <;> first | exact k _ h | exact h.elim
theorem i2 {f} {P : List Sl → Prop} {cs Q Ed} (k : ∀ a b, f a b cs Q Ed → P [a, b]) : ∀ ss, sp2 f ss cs Q Ed → P ss := fun ss h => by
  unfold sp2 at h; split at h <;> first | exact k _ _ h | exact h.elim
theorem i3 {f} {P : List Sl → Prop} {cs Q Ed} (k : ∀ a b c, f a b c cs Q Ed → P [a, b, c]) : ∀ ss, sp3 f ss cs Q Ed → P ss := fun ss h => by
  unfold sp3 at h; split at h <;> first | exact k _ _ _ h | exact h.elim
theorem i4 {f} {P : List Sl → Prop} {cs Q Ed} (k : ∀ a b c d, f a b c d cs Q Ed → P [a, b, c, d]) : ∀ ss, sp4 f ss cs Q Ed → P ss := fun ss h => by
  unfold sp4 at h; split at h <;> first | exact k _ _ _ _ h | exact h.elim
theorem i5 {f} {P : List Sl → Prop} {cs Q Ed} (k : ∀ a b c d e, f a b c d e cs Q Ed → P [a, b, c, d, e]) : ∀ ss, sp5 f ss cs Q Ed → P ss := fun ss h => by
  unfold sp5 at h; split at h <;> first | exact k _ _ _ _ _ h | exact h.elim
structure FAt (K : Frag) (mg : Str → Option Value) (x : Str) (st : Stmt) (ps : List Str) (f : Addr) (fd : FuncData) : Prop where
  F : Fun K x x st f fd
  g : mg x = some (.ref f)
  b : Binds K fd ps []
abbrev endD (n0 : Nat) (Qd : DK) : DEnds := ⟨fun _ st => Ret n0 (.d .none) st Qd, fun s st => Ret n0 s st Qd, fun _ _ _ _ => False, fun _ _ => False, fun _ _ => False⟩
theorem ret_d {x : PyData} {st : Sto} {Q : DK} : Ret 0 (.d x) st Q = Q (.d x) [] := by
  unfold Ret
  simp
end Pz
set_option maxRecDepth 100000
namespace Pz
open PySem PySem.Spec PyProof.Rows L2 TL
theorem e1 {f} {G : List Sl → Sto → DK → DXF → Prop} {m : Nat} (k : ∀ a cs Qd Ed, f a cs Qd Ed → G [a] cs Qd Ed) : ∀ ss cs Qd Ed, sp1 f ss cs Qd Ed → ss.length = m → G ss cs Qd Ed := fun ss cs Qd Ed h _ => by
  unfold sp1 at h; split at h <;> first | exact k _ _ _ _ h | exact h.elim
theorem e2 {f} {G : List Sl → Sto → DK → DXF → Prop} {m : Nat} (k : ∀ a b cs Qd Ed, f a b cs Qd Ed → G [a, b] cs Qd Ed) : ∀ ss cs Qd Ed, sp2 f ss cs Qd Ed → ss.length = m → G ss cs Qd Ed := fun ss cs Qd Ed h _ => by
  unfold sp2 at h; split at h <;> first | exact k _ _ _ _ _ h | exact h.elim
theorem e3 {f} {G : List Sl → Sto → DK → DXF → Prop} {m : Nat} (k : ∀ a b c cs Qd Ed, f a b c cs Qd Ed → G [a, b, c] cs Qd Ed) : ∀ ss cs Qd Ed, sp3 f ss cs Qd Ed → ss.length = m → G ss cs Qd Ed := fun ss cs Qd Ed h _ => by
  unfold sp3 at h; split at h <;> first | exact k _ _ _ _ _ _ h | exact h.elim
theorem e4 {f} {G : List Sl → Sto → DK → DXF → Prop} {m : Nat} (k : ∀ a b c d cs Qd Ed, f a b c d cs Qd Ed → G [a, b, c, d] cs Qd Ed) : ∀ ss cs Qd Ed, sp4 f ss cs Qd Ed → ss.length = m → G ss cs Qd Ed := fun ss cs Qd Ed h _ => by
  unfold sp4 at h; split at h <;> first | exact k _ _ _ _ _ _ _ h | exact h.elim
class PenC extends TabC where
  P : Nat → Ct → Prop
  mono : ∀ {n m : Nat} {c : Ct}, P n c → n ≤ m → P m c
  cl : ∀ {n k : Nat} {c : Ct}, P n c → Cl k c
  live : ∀ {n : Nat} {c : Ct}, P n c → c.live
  nr : ∀ {n k : Nat} {c : Ct}, P n c → NoRef k c
variable [PenC]
def Pen (n : Nat) (c : Ct) : Prop := PenC.P n c
theorem Pen.mono {n m : Nat} {c : Ct} (h : Pen n c) (le : n ≤ m) : Pen m c := PenC.mono h le
theorem Pen.cl {n k : Nat} {c : Ct} (h : Pen n c) : Cl k c := PenC.cl h
theorem Pen.live {n : Nat} {c : Ct} (h : Pen n c) : c.live := PenC.live h
theorem Pen.nr {n k : Nat} {c : Ct} (h : Pen n c) : NoRef k c := PenC.nr h
def PenL (n : Nat) (c : Ct) : Prop := ∃ (ds : List Int) (i l : Int), c = .lst [.list (ds.map .int), .int i, .int l] ∧ ds.length ≤ 63 ∧ 0 ≤ i ∧ i ≤ n ∧ 0 ≤ l
@[reducible] def penL (T : List (Addr × Str)) (kw : Prop := True) : PenC where
  T := T
  kw := kw
  P := PenL
  mono := fun h le => by
    obtain ⟨ds, i, l, e, h1, h2, h3, h4⟩ := h
    exact ⟨ds, i, l, e, h1, h2, by omega, h4⟩
  cl := fun h => by
    obtain ⟨ds, i, l, rfl, _⟩ := h
    trivial
  live := fun h => by
    obtain ⟨ds, i, l, rfl, _⟩ := h
    trivial
  nr := fun h => by
    obtain ⟨ds, i, l, rfl, _⟩ := h
    trivial
def PenE (n : Nat) (c : Ct) : Prop := ∃ (ds : List Int) (i l : Int), c = .dK [(.inr "cells", .list (ds.map .int)), (.inr "at", .int i), (.inr "left", .int l)] ∧ ds.length ≤ 63 ∧ 0 ≤ i ∧ i ≤ n ∧ 0 ≤ l
@[reducible] def penE (T : List (Addr × Str)) (kw : Prop := True) : PenC where
  T := T
  kw := kw
  P := PenE
  mono := fun h le => by
    obtain ⟨ds, i, l, e, h1, h2, h3, h4⟩ := h
    exact ⟨ds, i, l, e, h1, h2, by omega, h4⟩
  cl := fun h => by
    obtain ⟨ds, i, l, rfl, _⟩ := h
    trivial
  live := fun h => by
    obtain ⟨ds, i, l, rfl, _⟩ := h
    trivial
  nr := fun h => by
    obtain ⟨ds, i, l, rfl, _⟩ := h
    trivial
def sp_pen : DSp := sp1 fun a cs Q Ed => ∃ ns, a = .f ns ∧ cs = [] ∧ ∀ c, Pen 0 c → Q (.o 0) [c]
def sp_draw : DSp := sp2 fun a b cs Q Ed => ∃ c n m, a = .o 0 ∧ b = .d (.int m) ∧ cs = [c] ∧ Pen n c ∧ n ≤ 100000000 ∧ 0 < m ∧ m < 2 ^ 64 ∧ ∀ c' r, Pen (n + 1) c' → 0 ≤ r → r < m → Q (.d (.int r)) [c']
theorem pen_call {ns : List Int} {st : Sto} {Q : DK} {Ed : DXF} (k : ∀ c, Pen 0 c → Q (.o st.length) (st ++ [c])) : locCall sp_pen [.f ns] st Q Ed := by
  simp only [locCall, hsOf, getAll, List.map, locS, sp_pen, sp1]
  refine ⟨fun _ m => (by cases m), ns, rfl, trivial, fun c p => ⟨fun z m => ?_, ?_⟩⟩
  · cases List.mem_singleton.mp m
    exact p.cl
  · simpa [gloS, putAll] using k c p
theorem cdw {i j : Int} (h0 : 0 < j) (h1 : j < 2 ^ 64) : CDivW i j := ⟨h0, by
  have : j.natAbs < 2 ^ 64 := by omega
  have := (Nat.log2_lt (by omega)).mpr this
  omega⟩
theorem small {i : Int} (h0 : 0 ≤ i) (h1 : i < 2 ^ 64) : SmallI i := ⟨by omega, h1⟩
theorem cpow {i j : Int} (h0 : 0 ≤ i) (h1 : i < 2 ^ 64) (h2 : 0 ≤ j) (h3 : j ≤ 1000000) : CPow i j := ⟨h2, h3, by omega⟩
end Pz
set_option maxRecDepth 100000
namespace Pz
open PySem PySem.Spec PyProof.Rows L2 TL
variable [PenC]
variable {α : Type} {a b c d : α} {l : List α} {n : Nat} {x : PyData} {C : Ct} {ds : List PyData} {st : Sto} {Q : DK}
theorem ixN_lt {k : Nat} {i : Int} (h0 : 0 ≤ i) (h1 : i < k) : ixN k i = some i.toNat := by
  unfold ixN
  rw [if_pos h0, if_pos h1]
theorem atI_at {xs : List α} {i : Int} (h0 : 0 ≤ i) (h1 : i < xs.length) : atI xs i = xs[i.toNat]? := by
  unfold atI
  rw [ixN_lt h0 h1]
  rfl
theorem at0 : atI (a :: l) 0 = some a := by rw [atI_at (by omega) (by rw [List.length_cons]; omega)]; rfl
theorem at1 : atI (a :: b :: l) 1 = some b := by rw [atI_at (by omega) (by rw [List.length_cons, List.length_cons]; omega)]; rfl
theorem at2 : atI (a :: b :: c :: l) 2 = some c := by rw [atI_at (by omega) (by rw [List.length_cons, List.length_cons, List.length_cons]; omega)]; rfl
theorem at3 : atI (a :: b :: c :: d :: l) 3 = some d := by rw [atI_at (by omega) (by rw [List.length_cons, List.length_cons, List.length_cons, List.length_cons]; omega)]; rfl
theorem len1 : [a].length = 1 := rfl
theorem len2 : [a, b].length = 2 := rfl
theorem len3 : [a, b, c].length = 3 := rfl
theorem ix10 : ixN 1 0 = some 0 := rfl
theorem ix20 : ixN 2 0 = some 0 := rfl
theorem ix21 : ixN 2 1 = some 1 := rfl
theorem ix30 : ixN 3 0 = some 0 := rfl
theorem ix31 : ixN 3 1 = some 1 := rfl
theorem ix32 : ixN 3 2 = some 2 := rfl
theorem sh_int {i : Int} : SeqAt.shaped (.int i) = true := rfl
theorem sh_bl {i : Bool} : SeqAt.shaped (.bool i) = true := rfl
theorem sh_non : SeqAt.shaped .none = true := rfl
theorem eqv_int {i j : Int} : PyData.eqv (.int i) (.int j) = decide (i = j) := rfl
theorem eqv_str {i j : Str} : PyData.eqv (.str i) (.str j) = decide (i = j) := by
  show (i == j) = _
  by_cases h : i = j <;> simp [h]
theorem ret1_d : Ret 1 (.d x) (C :: st) Q = (Cl 1 C ∧ Q (.d x) [C]) := by simp [Ret]
theorem ret1_o0 : Ret 1 (.o 0) (C :: st) Q = (Cl 1 C ∧ Q (.o 0) [C]) := by simp [Ret]
theorem ret1_o1 : Ret 1 (.o 1) (C :: .lst ds :: st) Q = (Cl 1 C ∧ Q (.o 1) [C, .lst ds]) := by simp [Ret, Ct.live, Cl]
theorem ret0_o0 : Ret 0 (.o 0) (.lst ds :: st) Q = Q (.o 0) [.lst ds] := by simp [Ret, Ct.live, Cl]
theorem cl_lst : Cl n (.lst ds) = True := rfl
theorem sh_str {z : Str} (hz : PyData.strOk z = true) : SeqAt.shaped (.str z) = true := by
  simp [SeqAt.shaped, PyData.canLay0, hz, PyData.depth]
theorem eqv_nil {ns : List Int} : PyData.eqv (.list (ns.map .int)) (.list []) = ns.isEmpty := by
  cases ns <;> rfl
theorem canLay_ints : ∀ ns : List Int, PyData.canLayAll0 (ns.map .int) = true
  | [] => rfl
  | n :: ns => by simp [PyData.canLayAll0, PyData.canLay0, canLay_ints ns]
theorem depth_ints : ∀ ns : List Int, PyData.depthAll (ns.map .int) = 0
  | [] => rfl
  | n :: ns => by simp [PyData.depthAll, PyData.depth, depth_ints ns]
theorem sh_ints {ns : List Int} : SeqAt.shaped (.list (ns.map .int)) = true := by
  simp [SeqAt.shaped, PyData.canLay0, canLay_ints, PyData.depth, depth_ints]
theorem sh_intsT {ns : List Int} : SeqAt.shaped (.tuple (ns.map .int)) = true := by
  simp [SeqAt.shaped, PyData.canLay0, canLay_ints, PyData.depth, depth_ints]
theorem sh_nil : SeqAt.shaped (.list []) = true := rfl
theorem mix1 {x i : Int} (h0 : 0 ≤ i) (h1 : i ≤ 100000000) : CPow (x % 2147483549 + 50021 * i + 43) 3 := by
  have := Int.emod_nonneg x (by omega : (2147483549 : Int) ≠ 0)
  have := Int.emod_lt_of_pos x (by omega : (0 : Int) < 2147483549)
  exact cpow (by omega) (by omega) (by omega) (by omega)
theorem mix2 {y i : Int} (h0 : 0 ≤ i) (h1 : i ≤ 100000000) : CPow (y % 2147483579 * (2 * i + 7) + 80039) 3 := by
  have a := Int.emod_nonneg y (by omega : (2147483579 : Int) ≠ 0)
  have b := Int.emod_lt_of_pos y (by omega : (0 : Int) < 2147483579)
  have c : 0 ≤ y % 2147483579 * (2 * i + 7) := Int.mul_nonneg a (by omega)
  have d : y % 2147483579 * (2 * i + 7) ≤ 2147483579 * 200000007 := Int.mul_le_mul (by omega) (by omega) (by omega) (by omega)
  exact cpow (by omega) (by omega) (by omega) (by omega)
section
variable {β : Type} {args : β → List Sl} {pre : β → Prop} {post : β → PyData → Prop} {N : List Str} {m k : Nat} {τ : DS}
def spD (args : β → List Sl) (pre : β → Prop) (post : β → PyData → Prop) : DSp := fun ss cs Q Ed => ∃ b, ss = args b ∧ cs = [] ∧ pre b ∧ ∀ d, post b d → Q (.d d) []
def spP (k : Nat) (args : β → List Sl) (pre : β → Prop) (post : β → PyData → Prop) : DSp := fun ss cs Q Ed => ∃ b c n, ss = .o 0 :: args b ∧ cs = [c] ∧ Pen n c ∧ n + k ≤ 100000000 ∧ pre b ∧ ∀ c' d, Pen (n + k) c' → post b d → Q (.d d) [c']
theorem lD (h : ∀ b, (args b).length = m) : ∀ ss cs Q Ed, spD args pre post ss cs Q Ed → ss.length = m := by
  rintro ss cs Q Ed ⟨b, rfl, _⟩
  exact h b
theorem lP (h : ∀ b, (Sl.o 0 :: args b).length = m) : ∀ ss cs Q Ed, spP k args pre post ss cs Q Ed → ss.length = m := by
  rintro ss cs Q Ed ⟨b, c, n, rfl, _⟩
  exact h b
end
def Ints (P : Int → Prop) (ds : List PyData) : Prop := ∀ d ∈ ds, ∃ x, d = .int x ∧ P x
theorem Ints.map {P : Int → Prop} : ∀ {ds : List PyData}, Ints P ds → ∃ ns : List Int, ds = ns.map .int ∧ ∀ x ∈ ns, P x
  | [], _ => ⟨[], rfl, fun _ m => by cases m⟩
  | d :: ds, h => by
    obtain ⟨x, rfl, px⟩ := h d List.mem_cons_self
    obtain ⟨ns, rfl, q⟩ := Ints.map (fun z m => h z (List.mem_cons_of_mem _ m))
    exact ⟨x :: ns, rfl, fun y m => by exact (List.mem_cons.mp m).elim (fun e => e ▸ px) (q y)⟩
theorem Ints.app {P : Int → Prop} {ds es : List PyData} (h1 : Ints P ds) (h2 : Ints P es) : Ints P (ds ++ es) := fun d m => (List.mem_append.mp m).elim (h1 d) (h2 d)
theorem Ints.one {P : Int → Prop} {x : Int} (h : P x) : Ints P [.int x] := fun d m => ⟨x, List.mem_singleton.mp m, h⟩
theorem Ints.nil {P : Int → Prop} : Ints P [] := fun d m => by cases m
theorem len_rng {n : Nat} {lo : Int} : (rng lo n).length = n := by simp [rng]
theorem strOk_iff {z : Str} : PyData.strOk z = true ↔ ∀ c ∈ tl z, c < 0x110000 := by
  unfold PyData.strOk tl
  rw [Array.all_eq_true_iff_forall_mem]
  simp
theorem strOk_add {x y : Str} (h1 : PyData.strOk x = true) (h2 : PyData.strOk y = true) : PyData.strOk (x ++ y) = true := by
  rw [strOk_iff] at *
  rw [show tl (x ++ y) = tl x ++ tl y from tl_append x y]
  exact fun c m => (List.mem_append.mp m).elim (h1 c) (h2 c)
theorem len_tl {x : Str} : x.length = (tl x).length := by simp [tl, Str.length]
theorem len_add {x y : Str} : (x ++ y).length = x.length + y.length := by rw [len_tl, len_tl, len_tl, show tl (x ++ y) = tl x ++ tl y from tl_append x y, List.length_append]
theorem len_mul {x : Str} {n : Int} : (Txt.mul x n).length = n.toNat * x.length := by
  rw [len_tl, len_tl, tl_mul, List.length_flatten, List.map_replicate]
  simp
theorem tl_lit {s : String} : tl (Str.ofString s) = s.toList.map Char.toNat := by rw [Str.ofString_eq_toList]
theorem strOk_lit {s : String} : PyData.strOk (Str.ofString s) = true := by
  rw [strOk_iff, tl_lit]
  intro c m
  obtain ⟨x, _, rfl⟩ := List.mem_map.mp m
  have := x.valid
  rcases this with h | h
  · exact Nat.lt_trans h (by decide)
  · exact h.2
theorem sh_lit {s : String} : SeqAt.shaped (.str (Str.ofString s)) = true := sh_str strOk_lit
theorem len_lit {s : String} : (Str.ofString s).length = s.length := by rw [len_tl, tl_lit, List.length_map, String.length_toList]
theorem int_len {i : Int} (h : i.natAbs < 10 ^ 100) : (PyData.shown (.int i)).length ≤ 101 := by
  unfold PyData.shown
  show (Str.ofString (toString i)).length ≤ 101
  rw [len_lit]
  cases i with
  | ofNat n => exact Nat.le_trans ((Nat.length_repr_le_iff (n := n) (by decide : 0 < 100)).mpr (by simpa using h)) (by decide)
  | negSucc n =>
    have := (Nat.length_repr_le_iff (n := n + 1) (by decide : 0 < 100)).mpr (by simpa [Int.natAbs] using h)
    show ("-" ++ Nat.repr (n + 1)).length ≤ 101
    rw [String.length_append]
    have e : "-".length = 1 := by decide +kernel
    omega
theorem int_show {i : Int} (h : i.natAbs < 10 ^ 100) : (PyData.int i).showable = true := by
  have : i.natAbs.log2 < 1920 := by
    by_cases z : i.natAbs = 0
    · rw [z]; decide
    · exact (Nat.log2_lt z).mpr (Nat.lt_of_lt_of_le h (by decide +kernel))
  simpa [PyData.showable] using this
theorem ixN_m1 {k : Nat} (h : 0 < k) : ixN k (-1) = some (k - 1) := by
  unfold ixN
  rw [if_neg (by omega), if_pos (by omega)]
  congr 1
  omega
theorem eqv_self_str {z : Str} : PyData.eqv (.str z) (.str z) = true := by rw [eqv_str]; simp
theorem p10_3 : (10 : Int) ^ Int.toNat 3 = 1000 := (Int.natCast_pow 10 (Int.toNat 3)).symm.trans (congrArg Int.ofNat (by decide +kernel : 10 ^ Int.toNat 3 = 1000))
theorem p10_6 : (10 : Int) ^ Int.toNat 6 = 1000000 := (Int.natCast_pow 10 (Int.toNat 6)).symm.trans (congrArg Int.ofNat (by decide +kernel : 10 ^ Int.toNat 6 = 1000000))
theorem p10_7 : (10 : Int) ^ Int.toNat 7 = 10000000 := (Int.natCast_pow 10 (Int.toNat 7)).symm.trans (congrArg Int.ofNat (by decide +kernel : 10 ^ Int.toNat 7 = 10000000))
theorem p10_9 : (10 : Int) ^ Int.toNat 9 = 1000000000 := (Int.natCast_pow 10 (Int.toNat 9)).symm.trans (congrArg Int.ofNat (by decide +kernel : 10 ^ Int.toNat 9 = 1000000000))
theorem p10_12 : (10 : Int) ^ Int.toNat 12 = 1000000000000 := (Int.natCast_pow 10 (Int.toNat 12)).symm.trans (congrArg Int.ofNat (by decide +kernel : 10 ^ Int.toNat 12 = 1000000000000))
section
variable {t u v : DS} {A : DT} {te to ti : DE} {nx bk ct : Sls → Sto → Prop} {rt : DK} {ex : DX} {sl : Sls} {σ : Sto} {i : Nat} {f : Sl → Sl → Sto → DK → Prop} {ω : DI} {g : DG}
theorem seq_mk : wSeq t u ⟨nx, rt, ex, bk, ct⟩ sl σ = t ⟨u ⟨nx, rt, ex, bk, ct⟩, rt, ex, bk, ct⟩ sl σ := rfl
theorem nx_mk : wNext ⟨nx, rt, ex, bk, ct⟩ sl σ = nx sl σ := rfl
theorem bk_mk : wBreak ⟨nx, rt, ex, bk, ct⟩ sl σ = bk sl σ := rfl
theorem ct_mk : wCont ⟨nx, rt, ex, bk, ct⟩ sl σ = ct sl σ := rfl
theorem set_mk : wSet i te ⟨nx, rt, ex, bk, ct⟩ sl σ = te ex sl σ fun s st => nx (sl.set i (some s)) st := rfl
theorem expr_mk : wExpr te ⟨nx, rt, ex, bk, ct⟩ sl σ = te ex sl σ fun _ st => nx sl st := rfl
theorem ret_mk : wRet te ⟨nx, rt, ex, bk, ct⟩ sl σ = te ex sl σ rt := rfl
theorem retN_mk : wRetN ⟨nx, rt, ex, bk, ct⟩ sl σ = rt (.d .none) σ := rfl
theorem if_mk : wIf A u v ⟨nx, rt, ex, bk, ct⟩ sl σ = A ex sl σ fun b st => if b = true then u ⟨nx, rt, ex, bk, ct⟩ sl st else v ⟨nx, rt, ex, bk, ct⟩ sl st := rfl
theorem for_mk : wFor ω g u ⟨nx, rt, ex, bk, ct⟩ sl σ = ω ex sl σ fun ds st => wForL g u ⟨nx, rt, ex, bk, ct⟩ ds sl st := rfl
end
theorem forL_ix {g : DG} {u : DS} {nx bk ct : Sls → Sto → Prop} {rt : DK} {ex : DX} (Inv : List PyData → Sls → Sto → Prop) (h0 : ∀ sl st, Inv [] sl st → nx sl st)
    (h1 : ∀ (R B : Sls → Sto → Prop) d ds sl st, (∀ sl st, Inv ds sl st → R sl st) → Inv (d :: ds) sl st → g (.d d) sl st fun sl st => u ⟨R, rt, ex, B, R⟩ sl st) :
    ∀ ds sl st, Inv ds sl st → wForL g u ⟨nx, rt, ex, bk, ct⟩ ds sl st
  | [], sl, st, h => h0 sl st h
  | d :: ds, sl, st, h => h1 _ nx d ds sl st (fun sl st w => forL_ix (nx := nx) (bk := bk) (ct := ct) Inv h0 h1 ds sl st w) h
theorem ite_all {c p q : Prop} [Decidable c] (hp : p) (hq : q) : if c then p else q := by
  split
  · exact hp
  · exact hq
theorem atI_lt {xs : List α} {i : Int} (h0 : 0 ≤ i) (h1 : i < xs.length) : ∃ y, atI xs i = some y ∧ y ∈ xs := by
  have : i.toNat < xs.length := by omega
  exact ⟨xs[i.toNat], (atI_at h0 h1).trans (List.getElem?_eq_getElem this), List.getElem_mem this⟩
end Pz
set_option maxRecDepth 100000
namespace Pz
open PySem PySem.Spec PyProof.Rows L2 TL
variable [PenC]
section
variable {X : Cx} {E : WXs} {Z0 : Zs} {a b c e : Expr} {es : List Expr} {ta tb tc te : DE} {t : DA} {pos p : Pos} {x : Str} {K : Frag}
def wDeadE : DE := fun _ _ _ _ => False
def wDeadT : DT := fun _ _ _ _ => False
abbrev FD := List Sl → (PyData → Prop) → Prop
def allD : List Sl → Bool
  | [] => true
  | .d _ :: r => allD r
  | _ :: _ => false
structure FOk (f : FD) (n : Nat) : Prop where
  dat : ∀ ss k, f ss k → ss.length = n ∧ allD ss = true
  mono : ∀ ss k k', (∀ d, k d → k' d) → f ss k → f ss k'
theorem hsOf_allD : ∀ {ss : List Sl}, allD ss = true → hsOf ss = []
  | [], _ => rfl
  | .d _ :: r, h => hsOf_allD (ss := r) h
theorem locS_allD {hs : List Nat} : ∀ {ss : List Sl}, allD ss = true → ss.map (locS hs) = ss
  | [], _ => rfl
  | .d _ :: r, h => by
    show _ :: r.map (locS hs) = _
    rw [locS_allD (ss := r) h]
    rfl
def spF (f : FD) : DSp := fun ss cs Q Ed => cs = [] ∧ f ss fun d => Q (.d d) []
def spQ (k : Nat) (f : FD) : DSp := fun ss cs Q Ed => match ss, cs with
  | .o 0 :: r, [c] => ∃ n, Pen n c ∧ n + k ≤ 1000000 ∧ f r fun d => ∀ c', Pen (n + k) c' → Q (.d d) [c']
  | _, _ => False
variable {f : FD} {n k m : Nat} {N : List Str} {τ : DS}
theorem lF (ok : FOk f n) : ∀ ss cs Q Ed, spF f ss cs Q Ed → ss.length = n := fun ss cs Q Ed h => (ok.dat _ _ h.2).1
theorem lQ (ok : FOk f n) : ∀ ss cs Q Ed, spQ k f ss cs Q Ed → ss.length = n + 1 := fun ss cs Q Ed h => by
  unfold spQ at h
  split at h
  · obtain ⟨_, _, _, h⟩ := h
    have := (ok.dat _ _ h).1
    simp [this]
  · exact h.elim
theorem locF (ok : FOk f n) {ss : List Sl} {st : Sto} {Q : DK} {Ed : DXF} (h : f ss fun d => Q (.d d) st) : locCall (spF f) ss st Q Ed := by
  have h1 := (ok.dat _ _ h).2
  simp only [locCall, hsOf_allD h1, getAll, locS_allD h1, spF]
  refine ⟨fun c m => (by cases m), trivial, ok.mono _ _ _ (fun d q => ⟨fun c m => (by cases m), ?_⟩) h⟩
  simpa [gloS, putAll] using q
theorem locQ (ok : FOk f n) {ss : List Sl} {h j : Nat} {c : Ct} {st : Sto} {Q : DK} {Ed : DXF} (e0 : st[h]? = some c) (p : Pen j c) (hn : j + k ≤ 1000000) (hf : f ss fun d => ∀ c', Pen (j + k) c' → Q (.d d) (st.set h c')) : locCall (spQ k f) (.o h :: ss) st Q Ed := by
  have h1 := (ok.dat _ _ hf).2
  have q : getAll st [h] = some [c] := by simp [getAll, e0]
  have q2 : hsOf (.o h :: ss) = [h] := by simp [hsOf, hsOf_allD h1]
  simp only [locCall, q2, q, List.map, locS_allD h1]
  refine ⟨fun z m => by cases List.mem_singleton.mp m; exact p.cl, ?_⟩
  simp only [spQ, locS, List.idxOf_cons_self]
  refine ⟨j, p, hn, ok.mono _ _ _ (fun d w c' p' => ⟨fun z m => by cases List.mem_singleton.mp m; exact p'.cl, ?_⟩) hf⟩
  simpa [gloS, putAll] using w c' p'
def wCallF (f : FD) (t : DA) : DE := fun Ed sl st Q => t Ed sl st fun ss st => f ss fun d => Q (.d d) st
def aQ (k : Nat) (f : FD) (ss : List Sl) (st : Sto) (Q : DK) : Prop := match ss with
  | .o h :: r => ∃ c, st[h]? = some c ∧ ∃ n, Pen n c ∧ n + k ≤ 1000000 ∧ f r fun d => ∀ c', Pen (n + k) c' → Q (.d d) (st.set h c')
  | _ => False
def wCallQ (k : Nat) (f : FD) (t : DA) : DE := fun Ed sl st Q => t Ed sl st fun ss st => aQ k f ss st Q
def wCallA (g : FA) (t : DA) : DE := fun Ed sl st Q => t Ed sl st fun ss st => g ss st Q
variable {dsp : DSp} {fa : Addr} {fd : FuncData} {ps ks : List Str} {kws : List Keyword} {tk : DA} {g : FA}
theorem de_callA (ok : ∀ ss st Q Ed, g ss st Q → locCall dsp ss st Q Ed) (F : FnD X.prog X.w X.K X.mg X.base CX0 k fa fd ps dsp) (hA : X.A.guards = some []) (hr : Room k X.A) (hl : ∀ ss cs Q Ed, dsp ss cs Q Ed → ss.length = ps.length) (hg : Gl X x) (hm : X.mg x = some (.ref fa)) (hk : PySem.W.keepIn X.K (.ref fa) = true) (hb : Binds X.K fd ps [])
    (ha : DAs X E (e :: es) t) (hdb : (x == ("__debug__" : Str)) = false := by decide) (he : starEach (e :: es) X.env = (false, eval e X.env) :: starEach es X.env := by rfl) (hpl : (backTo pos (starEach es X.env)).any (·.1) = false := by rfl) :
    DEx X E (.Call (.Name x p) (e :: es) [] pos) (wCallA g t) :=
  ⟨peI (pe_callG F hA hr hg hm hk hb pass0 ha.run hdb he hpl) fun σ H Q ⟨Z, sl, Qd, Ed, h, ok', so, w, kq, kx⟩ =>
    ⟨Z, sl, _, Ed, h, ok', so, w, fun Z1 vs ss l1 ok1 r1 w1 => by
      show toSp X.K ps.length dsp (vs ++ []) Z1.H Q E0
      rw [List.append_nil]
      have w2 := ok _ _ _ (fun _ _ _ => False) w1
      exact loc_sp ok1 r1 (locCall_len w2 hl) w2 (kq.le l1) (fun _ _ _ _ _ _ _ _ _ z => z), kx⟩⟩
theorem de_callF (ok : FOk f n) (F : FnD X.prog X.w X.K X.mg X.base CX0 k fa fd ps (spF f)) (hA : X.A.guards = some []) (hr : Room k X.A) (hn : n = ps.length) (hg : Gl X x) (hm : X.mg x = some (.ref fa)) (hk : PySem.W.keepIn X.K (.ref fa) = true) (hb : Binds X.K fd ps [])
    (ha : DAs X E (e :: es) t) (hdb : (x == ("__debug__" : Str)) = false := by decide) (he : starEach (e :: es) X.env = (false, eval e X.env) :: starEach es X.env := by rfl) (hpl : (backTo pos (starEach es X.env)).any (·.1) = false := by rfl) :
    DEx X E (.Call (.Name x p) (e :: es) [] pos) (wCallF f t) :=
  de_callA (fun ss st Q Ed h => locF ok h) F hA hr (fun ss cs Q Ed h => hn ▸ lF ok ss cs Q Ed h) hg hm hk hb ha hdb he hpl
theorem aQ_loc (ok : FOk f n) : ∀ ss st Q Ed, aQ m f ss st Q → locCall (spQ m f) ss st Q Ed := fun ss st Q Ed h => by
  unfold aQ at h
  split at h
  · obtain ⟨c, e0, j, p, hn, hf⟩ := h
    exact locQ ok e0 p hn hf
  · exact h.elim
theorem de_callQ (ok : FOk f n) (F : FnD X.prog X.w X.K X.mg X.base CX0 k fa fd ps (spQ m f)) (hA : X.A.guards = some []) (hr : Room k X.A) (hn : n + 1 = ps.length) (hg : Gl X x) (hm : X.mg x = some (.ref fa)) (hk : PySem.W.keepIn X.K (.ref fa) = true) (hb : Binds X.K fd ps [])
    (ha : DAs X E (e :: es) t) (hdb : (x == ("__debug__" : Str)) = false := by decide) (he : starEach (e :: es) X.env = (false, eval e X.env) :: starEach es X.env := by rfl) (hpl : (backTo pos (starEach es X.env)).any (·.1) = false := by rfl) :
    DEx X E (.Call (.Name x p) (e :: es) [] pos) (wCallQ m f t) :=
  de_callA (aQ_loc ok) F hA hr (fun ss cs Q Ed h => hn ▸ lQ ok ss cs Q Ed h) hg hm hk hb ha hdb he hpl
def wCallWF (n m : Nat) (f : FD) (g : ∀ {α : Type}, List α → List α → List α) (t tk : DA) : DE := fun Ed sl st Q => t Ed sl st fun ss st => tk Ed sl st fun zs st => ss.length = n ∧ zs.length = m ∧ f (g ss zs) fun d => Q (.d d) st
variable {gg : ∀ {α : Type}, List α → List α → List α}
theorem de_callWF0 (ok : FOk f n) (F : FnD X.prog X.w X.K X.mg X.base CX0 k fa fd ps (spF f)) (hA : X.A.guards = some []) (hr : Room k X.A) (hn : n = ps.length) (hg : Gl X x) (hm : X.mg x = some (.ref fa)) (hk : PySem.W.keepIn X.K (.ref fa) = true) (hb : KwD X.K fd ps 0 ks gg)
    (hkw : DKs X E kws tk) (hall : (backToKw pos (keywordEach kws X.env)).all (·.1.isSome) = true := by rfl) (hks : (backToKw pos (keywordEach kws X.env)).filterMap (·.1) = ks := by rfl) (hdb : (x == ("__debug__" : Str)) = false := by decide)
    (hpl : ((backTo pos (starEach [] X.env)).any (·.1) || (backToKw pos (keywordEach kws X.env)).any (·.1.isNone)) = false := by rfl) : DEx X E (.Call (.Name x p) [] kws pos) (wCallWF 0 ks.length f gg wNil tk) :=
  ⟨peI (pe_callW0 F hA hr hg hm hk hb.kb pass0 hkw.run hall hks hdb hpl) fun σ H Q h => by
    obtain ⟨Z, sl, Qd, Ed, h, ok', so, w, kq, kx⟩ := h
    subst h
    refine ⟨Z, sl, _, Ed, rfl, ok', so, w, fun Z2 zs us l2 ok2 r2 w2 => ?_, kx⟩
    obtain ⟨e1, e2, w2⟩ := w2
    have w3 : locCall (spF f) (gg [] us) Z2.st Qd fun _ _ _ => False := locF ok w2
    exact ⟨rfl, r2.length.trans e2, loc_sp ok2 (hb.rp (vs := []) (ss := []) rfl e2 .nil r2) (locCall_len w3 fun ss cs Q Ed h => hn ▸ lF ok ss cs Q Ed h) w3 (kq.le l2) (fun _ _ _ _ _ _ _ _ _ z => z)⟩⟩
abbrev end0 (Qd : DK) : DEnds := ⟨fun _ st => Ret 0 (.d .none) st Qd, fun s st => Ret 0 s st Qd, fun _ _ _ _ => False, fun _ _ => False, fun _ _ => False⟩
abbrev end1 (Qd : DK) : DEnds := ⟨fun _ st => Ret 1 (.d .none) st Qd, fun s st => Ret 1 s st Qd, fun _ _ _ _ => False, fun _ _ => False, fun _ _ => False⟩
theorem hF (h : ∀ (ss : List Sl) (Qd : DK), (f ss fun d => Qd (.d d) []) → τ (end0 Qd) (startS N ss) []) :
    ∀ (ss : List Sl) (cs : Sto) (Qd : DK) (Ed : DXF), spF f ss cs Qd Ed → ss.length = m → cs.length = 0 ∧ τ (end0 Qd) (startS N ss) cs := by
  rintro ss cs Qd Ed ⟨rfl, w⟩ _
  exact ⟨rfl, h ss Qd w⟩
theorem hQ (h : ∀ (ss : List Sl) (c : Ct) (n : Nat) (Qd : DK), Pen n c → n + k ≤ 1000000 → (f ss fun d => ∀ c', Pen (n + k) c' → Qd (.d d) [c']) → τ (end1 Qd) (startS N (.o 0 :: ss)) [c]) :
    ∀ (ss : List Sl) (cs : Sto) (Qd : DK) (Ed : DXF), spQ k f ss cs Qd Ed → ss.length = m → cs.length = 1 ∧ τ (end1 Qd) (startS N ss) cs := by
  rintro ss cs Qd Ed w _
  unfold spQ at w
  split at w
  · obtain ⟨n, p, hn, w⟩ := w
    exact ⟨rfl, h _ _ _ Qd p hn w⟩
  · exact w.elim
def oIn (neg : Bool) (x y : Sl) (st : Sto) (Q : DK) : Prop := match vw st x, vw st y with
  | some d, some (.list ds) => SeqAt.shaped d = true ∧ SeqAt.shaped (.list ds) = true ∧ Q (.d (.bool (if neg then !ds.any fun z => PyData.eqv z d else ds.any fun z => PyData.eqv z d))) st
  | _, _ => False
def wRev (te : DE) : DE := fun Ed sl st Q => te Ed sl st fun s st => match vw st s with
  | some (.list ds) => Q (.d (.list ds.reverse)) st
  | _ => False
def mSplit : FM := fun s ss st Q => match ss with
  | [t] => match vw st s, vw st t with
    | some (.str a), some (.str b) => b.length ≠ 0 ∧ a.length + 2 ≤ sizeLine ∧ Q (.d (.list ((Txt.split a b).map .str))) st
    | _, _ => False
  | _ => False
def asStrs : List PyData → Option (List Str)
  | [] => some []
  | .str z :: r => (asStrs r).map (z :: ·)
  | _ => none
theorem asStrs_map : ∀ ns : List Str, asStrs (ns.map PyData.str) = some ns
  | [] => rfl
  | n :: ns => by simp [asStrs, asStrs_map ns]
def vwS (st : Sto) (s : Sl) : Option (List Str) := match vw st s with
  | some (.list ds) => asStrs ds
  | some (.tuple ds) => asStrs ds
  | _ => none
def mJoin : FM := fun s ss st Q => match ss with
  | [t] => match vw st s, vwS st t with
    | some (.str a), some ys => (ys.map (·.length)).sum + ys.length * a.length ≤ 16777216 ∧ Q (.d (.str (Txt.join a ys))) st
    | _, _ => False
  | _ => False
end
end Pz
set_option maxRecDepth 100000
namespace Pz
open PySem PySem.Spec PyProof.Rows L2 TL
variable [PenC]
theorem wC_ap {s : Sl} {u0 : DX} {u1 : Sls} {st : Sto} {Q : DK} : wC s u0 u1 st Q = (Q s st) := rfl
theorem wVar_ap {i : Nat} {u0 : DX} {sl : Sls} {st : Sto} {Q : DK} : wVar i u0 sl st Q = (match nthS sl i with
  | some s => Q s st
  | none => False) := rfl
theorem wOp_ap {f : Sl → Sl → Sto → DK → Prop} {ta tb : DE} {Ed : DX} {sl : Sls} {st : Sto} {Q : DK} : wOp f ta tb Ed sl st Q = (ta Ed sl st fun x st => tb Ed sl st fun y st => f x y st Q) := rfl
theorem wTest_ap {t : DE} {Ed : DX} {sl : Sls} {st : Sto} {Q : Bool → Sto → Prop} : wTest t Ed sl st Q = (t Ed sl st fun s st => match s with
  | .d (.bool b) => Q b st
  | _ => False) := rfl
theorem wNil_ap  {u0 : DX} {u1 : Sls} {st : Sto} {Q : List Sl → Sto → Prop} : wNil  u0 u1 st Q = (Q [] st) := rfl
theorem wCons_ap {te : DE} {t : DA} {Ed : DX} {sl : Sls} {st : Sto} {Q : List Sl → Sto → Prop} : wCons te t Ed sl st Q = (te Ed sl st fun x st => t Ed sl st fun xs st => Q (x :: xs) st) := rfl
theorem wCall_ap {dsp : DSp} {t : DA} {Ed : DX} {sl : Sls} {st : Sto} {Q : DK} : wCall dsp t Ed sl st Q = (t Ed sl st fun ss st => locCall dsp ss st Q fun _ _ _ => False) := rfl
theorem wCallW_ap {n m : Nat} {dsp : DSp} {g : ∀ {α : Type}, List α → List α → List α} {t tk : DA} {Ed : DX} {sl : Sls} {st : Sto} {Q : DK} : wCallW n m dsp g t tk Ed sl st Q = (t Ed sl st fun ss st => tk Ed sl st fun zs st => ss.length = n ∧ zs.length = m ∧ locCall dsp (g ss zs) st Q fun _ _ _ => False) := rfl
theorem wApp_ap {f : FA} {t : DA} {Ed : DX} {sl : Sls} {st : Sto} {Q : DK} : wApp f t Ed sl st Q = (t Ed sl st fun ss st => f ss st Q) := rfl
theorem wLst_ap {t : DA} {Ed : DX} {sl : Sls} {st : Sto} {Q : DK} : wLst t Ed sl st Q = (t Ed sl st fun ss st => match dsOf ss with
  | some ds => ds.length ≤ sizeLine ∧ Q (.d (.list ds)) st
  | none => False) := rfl
theorem wTup_ap {t : DA} {Ed : DX} {sl : Sls} {st : Sto} {Q : DK} : wTup t Ed sl st Q = (t Ed sl st fun ss st => match dsOf ss with
  | some ds => ds.length ≤ sizeLine ∧ Q (.d (.tuple ds)) st
  | none => False) := rfl
theorem wLstO_ap {t : DA} {Ed : DX} {sl : Sls} {st : Sto} {Q : DK} : wLstO t Ed sl st Q = (t Ed sl st fun ss st => match dsOf ss with
  | some ds => ds.length ≤ sizeLine ∧ Q (.o st.length) (st ++ [.lst ds])
  | none => False) := rfl
theorem wNoPart_ap  {u0 : DX} {u1 : Sls} {st : Sto} {Q : Option Int → Sto → Prop} : wNoPart  u0 u1 st Q = (Q none st) := rfl
theorem wPart_ap {te : DE} {Ed : DX} {sl : Sls} {st : Sto} {Q : Option Int → Sto → Prop} : wPart te Ed sl st Q = (te Ed sl st fun s st => match vw st s with
  | some (.int i) => Q (some i) st
  | _ => False) := rfl
theorem wSl_ap {te : DE} {tl th : DO} {Ed : DX} {sl : Sls} {st : Sto} {Q : DK} : wSl te tl th Ed sl st Q = (te Ed sl st fun s st => tl Ed sl st fun lo st => th Ed sl st fun hi st => oSl s lo hi st Q) := rfl
theorem wAnd_ap {t u : DT} {Ed : DX} {sl : Sls} {st : Sto} {Q : Bool → Sto → Prop} : wAnd t u Ed sl st Q = (t Ed sl st fun b st => if b = true then u Ed sl st Q else Q false st) := rfl
theorem wOr_ap {t u : DT} {Ed : DX} {sl : Sls} {st : Sto} {Q : Bool → Sto → Prop} : wOr t u Ed sl st Q = (t Ed sl st fun b st => if b = true then Q true st else u Ed sl st Q) := rfl
theorem wNot_ap {t : DT} {Ed : DX} {sl : Sls} {st : Sto} {Q : Bool → Sto → Prop} : wNot t Ed sl st Q = (t Ed sl st fun b st => Q (!b) st) := rfl
theorem wAndV_ap {ta tb : DE} {Ed : DX} {sl : Sls} {st : Sto} {Q : DK} : wAndV ta tb Ed sl st Q = (ta Ed sl st fun s st => match s with
  | .d (.bool b) => if b = true then tb Ed sl st Q else Q (.d (.bool false)) st
  | _ => False) := rfl
theorem wOrV_ap {ta tb : DE} {Ed : DX} {sl : Sls} {st : Sto} {Q : DK} : wOrV ta tb Ed sl st Q = (ta Ed sl st fun s st => match s with
  | .d (.bool b) => if b = true then Q (.d (.bool true)) st else tb Ed sl st Q
  | _ => False) := rfl
theorem wNotV_ap {ta : DE} {Ed : DX} {sl : Sls} {st : Sto} {Q : DK} : wNotV ta Ed sl st Q = (ta Ed sl st fun s st => match s with
  | .d (.bool b) => Q (.d (.bool (!b))) st
  | _ => False) := rfl
theorem wIfE_ap {t : DT} {ta tb : DE} {Ed : DX} {sl : Sls} {st : Sto} {Q : DK} : wIfE t ta tb Ed sl st Q = (t Ed sl st fun b st => if b = true then ta Ed sl st Q else tb Ed sl st Q) := rfl
theorem wTru_ap {te : DE} {Ed : DX} {sl : Sls} {st : Sto} {Q : Bool → Sto → Prop} : wTru te Ed sl st Q = (te Ed sl st fun s st => match truD st s with
  | some b => Q b st
  | none => False) := rfl
theorem wChain_ap {f g : Sl → Sl → Sto → DK → Prop} {ta tb tc : DE} {Ed : DX} {sl : Sls} {st : Sto} {Q : DK} : wChain f g ta tb tc Ed sl st Q = (ta Ed sl st fun x st => tb Ed sl st fun y st => f x y st fun z st => match z with
  | .d (.bool b) => if b = true then tc Ed sl st fun w st => g y w st Q else Q (.d (.bool false)) st
  | _ => False) := rfl
theorem wNeg_ap {ta : DE} {Ed : DX} {sl : Sls} {st : Sto} {Q : DK} : wNeg ta Ed sl st Q = (ta Ed sl st fun s st => match vw st s with
  | some (.int i) => Q (.d (.int (-i))) st
  | _ => False) := rfl
theorem wAug_ap {i : Nat} {f : Sl → Sl → Sto → DK → Prop} {te : DE} {nx bk ct : Sls → Sto → Prop} {rt : DK} {ex : DX} {sl : Sls} {st : Sto} : wAug i f te ⟨nx, rt, ex, bk, ct⟩ sl st = (match nthS sl i with
  | some s => te ex sl st fun t st => f s t st fun z st => nx (sl.set i (some z)) st
  | none => False) := rfl
theorem gNm_ap {i : Nat} {s : Sl} {sl : Sls} {st : Sto} {Q : Sls → Sto → Prop} : gNm i s sl st Q = (Q (sl.set i (some s)) st) := rfl
theorem gNl_ap  {ds : List PyData} {sl : Sls} {st : Sto} {Q : Sls → Sto → Prop} : gNl  ds sl st Q = (match ds with
  | [] => Q sl st
  | _ => False) := rfl
theorem gCn_ap {g : DG} {gs : DGL} {ds : List PyData} {sl : Sls} {st : Sto} {Q : Sls → Sto → Prop} : gCn g gs ds sl st Q = (match ds with
  | d :: ds => g (.d d) sl st fun sl st => gs ds sl st Q
  | [] => False) := rfl
theorem gTp_ap {n : Nat} {gs : DGL} {s : Sl} {sl : Sls} {st : Sto} {Q : Sls → Sto → Prop} : gTp n gs s sl st Q = (match vw st s with
  | some (.tuple ds) => ds.length = n ∧ gs ds sl st Q
  | _ => False) := rfl
theorem wAsg_ap {te : DE} {g : DG} {nx bk ct : Sls → Sto → Prop} {rt : DK} {ex : DX} {sl : Sls} {st : Sto} : wAsg te g ⟨nx, rt, ex, bk, ct⟩ sl st = (te ex sl st fun s st => g s sl st nx) := rfl
theorem wItE_ap {te : DE} {Ed : DX} {sl : Sls} {st : Sto} {Q : List PyData → Sto → Prop} : wItE te Ed sl st Q = (te Ed sl st fun s st => match s with
  | .d (.list ds) => Q ds st
  | .d (.tuple ds) => Q ds st
  | .d (.str z) => Q (signs z) st
  | _ => False) := rfl
theorem wRng1_ap {t : DA} {Ed : DX} {sl : Sls} {st : Sto} {Q : List PyData → Sto → Prop} : wRng1 t Ed sl st Q = (t Ed sl st fun ss st => match ss with
  | [s] => match vw st s with
    | some (.int j) => -(2 ^ 62) ≤ j ∧ j < 2 ^ 62 ∧ Q (rng 0 j.toNat) st
    | _ => False
  | _ => False) := rfl
theorem wRng2_ap {t : DA} {Ed : DX} {sl : Sls} {st : Sto} {Q : List PyData → Sto → Prop} : wRng2 t Ed sl st Q = (t Ed sl st fun ss st => match ss with
  | [s, s'] => match vw st s, vw st s' with
    | some (.int i), some (.int j) => (-(2 ^ 62) ≤ i ∧ i < 2 ^ 62 ∧ -(2 ^ 62) ≤ j ∧ j < 2 ^ 62) ∧ Q (rng i (j - i).toNat) st
    | _, _ => False
  | _ => False) := rfl
theorem wYes_ap  {u0 : DX} {u1 : Sls} {st : Sto} {Q : Bool → Sto → Prop} : wYes  u0 u1 st Q = (Q true st) := rfl
theorem wLc_ap {ω : DI} {g : DG} {tt : DT} {te : DE} {vs : List Nat} {Ed : DX} {sl : Sls} {st : Sto} {Q : DK} : wLc ω g tt te vs Ed sl st Q = (ω Ed sl st fun ds st => wLcL g tt te (wipeS sl vs) ds [] st fun acc st => Q (.d (.list acc)) st) := rfl
theorem wLcO_ap {ω : DI} {g : DG} {tt : DT} {te : DE} {vs : List Nat} {Ed : DX} {sl : Sls} {st : Sto} {Q : DK} : wLcO ω g tt te vs Ed sl st Q = (ω Ed sl st fun ds st => wLcL g tt te (wipeS sl vs) ds [] st fun acc st => Q (.o st.length) (st ++ [.lst acc])) := rfl
theorem wBM_ap {T : String} {f : FM} {to : DE} {t : DA} {Ed : DX} {sl : Sls} {st : Sto} {Q : DK} : wBM T f to t Ed sl st Q = (to Ed sl st fun s st => tyD T st s ∧ t Ed sl st fun ss st => f s ss st Q) := rfl
theorem wSetIx_ap {te to ti : DE} {nx bk ct : Sls → Sto → Prop} {rt : DK} {ex : DX} {sl : Sls} {st : Sto} : wSetIx te to ti ⟨nx, rt, ex, bk, ct⟩ sl st = (te ex sl st fun v st => to ex sl st fun o st => ti ex sl st fun i st => match o, v, i with
  | .o h, .d y, .d (.int j) => match st[h]? with
    | some (.lst ds) => match ixN ds.length j with
      | some n => nx sl (st.set h (.lst (ds.set n y)))
      | none => False
    | _ => False
  | _, _, _ => False) := rfl
theorem wFrz_ap {n0 i : Nat} {u : DS} {nx bk ct : Sls → Sto → Prop} {rt : DK} {ex : DX} {sl : Sls} {st : Sto} : wFrz n0 i u ⟨nx, rt, ex, bk, ct⟩ sl st = (match nthS sl i with
  | some (.o h) => match st[h]? with
    | some (.lst ds) => n0 ≤ h ∧ (∀ c ∈ st, NoRef h c) ∧ u ⟨nx, rt, ex, bk, ct⟩ (sl.map (frzS h ds)) (st.set h .dead)
    | _ => False
  | _ => u ⟨nx, rt, ex, bk, ct⟩ sl st) := rfl
theorem wCallF_ap {f : FD} {t : DA} {Ed : DX} {sl : Sls} {st : Sto} {Q : DK} : wCallF f t Ed sl st Q = (t Ed sl st fun ss st => f ss fun d => Q (.d d) st) := rfl
theorem wCallQ_ap {k : Nat} {f : FD} {t : DA} {Ed : DX} {sl : Sls} {st : Sto} {Q : DK} : wCallQ k f t Ed sl st Q = (t Ed sl st fun ss st => aQ k f ss st Q) := rfl
theorem wCallWF_ap {n m : Nat} {f : FD} {g : ∀ {α : Type}, List α → List α → List α} {t tk : DA} {Ed : DX} {sl : Sls} {st : Sto} {Q : DK} : wCallWF n m f g t tk Ed sl st Q = (t Ed sl st fun ss st => tk Ed sl st fun zs st => ss.length = n ∧ zs.length = m ∧ f (g ss zs) fun d => Q (.d d) st) := rfl
theorem wRev_ap {te : DE} {Ed : DX} {sl : Sls} {st : Sto} {Q : DK} : wRev te Ed sl st Q = (te Ed sl st fun s st => match vw st s with
  | some (.list ds) => Q (.d (.list ds.reverse)) st
  | _ => False) := rfl
end Pz
set_option maxRecDepth 100000
namespace Pz
open PySem PySem.Spec PyProof.Rows L2 TL
variable [PenC]
mutual
def okR : PyData → Bool
  | .none => true
  | .bool _ => true
  | .int i => decide (i.natAbs < 10 ^ 100)
  | .str z => PyData.strOk z
  | .list xs => okRAll xs
  | .tuple xs => okRAll xs
  | .dict _ => false
def okRAll : List PyData → Bool
  | [] => true
  | x :: xs => okR x && okRAll xs
end
theorem chr_ok (q c : Nat) (hq : q < 0x110000) (hc : c < 0x110000) : ∀ x ∈ PySem.Builtin.Str.reprChar q c, x < 0x110000 := by
  have hx : ∀ w : Nat, ∀ x ∈ (List.replicate (w - ((Nat.toDigits 16 c).map Char.toNat).length) 48 ++ (Nat.toDigits 16 c).map Char.toNat), x < 0x110000 := by
    intro w x m
    rcases List.mem_append.mp m with m | m
    · rw [(List.mem_replicate.mp m).2]; decide
    · obtain ⟨y, _, rfl⟩ := List.mem_map.mp m
      have := y.valid
      rcases this with h | h
      · exact Nat.lt_trans h (by decide)
      · exact h.2
  intro x m
  unfold PySem.Builtin.Str.reprChar at m
  dsimp only at m
  repeat' split at m
  all_goals simp only [List.mem_append, List.mem_cons, List.not_mem_nil, or_false] at m
  all_goals first | omega | (rcases m with (m | m) | m <;> first | omega | exact hx _ x (by first | exact List.mem_append.mpr m | simpa using m))
theorem fold_ok (q : Nat) (hq : q < 0x110000) : ∀ (l : List Nat) (acc : Array Nat), (∀ c ∈ l, c < 0x110000) → (∀ c ∈ acc.toList, c < 0x110000) → ∀ c ∈ (l.foldl (fun out c => out ++ (PySem.Builtin.Str.reprChar q c).toArray) acc).toList, c < 0x110000
  | [], acc, _, h2 => h2
  | d :: r, acc, h1, h2 => by
    rw [List.foldl_cons]
    refine fold_ok q hq r _ (fun c m => h1 c (List.mem_cons_of_mem _ m)) fun c m => ?_
    rw [Array.toList_append] at m
    rcases List.mem_append.mp m with m | m
    · exact h2 c m
    · exact chr_ok q d hq (h1 d List.mem_cons_self) c (by simpa using m)
theorem strOk_repr {z : Str} (h : PyData.strOk z = true) : PyData.strOk (reprText z) = true := by
  rw [strOk_iff] at *
  have hq : reprQuote z < 0x110000 := by unfold reprQuote; split <;> decide
  intro c m
  unfold reprText at m
  rw [show tl (⟨(z.cps.foldl (fun out c => out ++ (PySem.Builtin.Str.reprChar (reprQuote z) c).toArray) #[reprQuote z]).push (reprQuote z)⟩ : Str) = ((z.cps.foldl (fun out c => out ++ (PySem.Builtin.Str.reprChar (reprQuote z) c).toArray) #[reprQuote z]).push (reprQuote z)).toList from rfl] at m
  rw [Array.toList_push, ← Array.foldl_toList] at m
  rcases List.mem_append.mp m with m | m
  · exact fold_ok _ hq z.cps.toList #[reprQuote z] h (fun c m => by simp at m; omega) c m
  · simp at m; omega
theorem strOk_from : ∀ (ts : List Str) (k : Nat) (acc : Str), PyData.strOk acc = true → (∀ t ∈ ts, PyData.strOk t = true) → PyData.strOk (textFrom k acc ts) = true
  | [], k, acc, h, _ => h
  | t :: r, k, acc, h, h2 => strOk_from r (k + 1) _ (strOk_add (strOk_add h (by split <;> exact strOk_lit)) (h2 t List.mem_cons_self)) fun x m => h2 x (List.mem_cons_of_mem _ m)
theorem strOk_listText {ts : List Str} (h : ∀ t ∈ ts, PyData.strOk t = true) : PyData.strOk (listText ts) = true := strOk_add (strOk_from ts 0 _ strOk_lit h) strOk_lit
theorem strOk_joinL {a : List Nat} (ha : ∀ c ∈ a, c < 0x110000) : ∀ {ys : List (List Nat)}, (∀ y ∈ ys, ∀ c ∈ y, c < 0x110000) → ∀ c ∈ TL.joinL a ys, c < 0x110000
  | [], _, c, m => by simp [TL.joinL] at m
  | [y], h, c, m => h y (by simp) c (by simpa [TL.joinL] using m)
  | y :: z :: r, h, c, m => by
    simp only [TL.joinL, List.mem_append] at m
    have ih := strOk_joinL ha (ys := z :: r) (fun y m => h y (List.mem_cons_of_mem _ m)) c
    rcases m with m | m
    · first | exact h y (by simp) c m | (rcases m with m | m <;> first | exact h y (by simp) c m | exact ha c m)
    · first | exact ih m | (rcases m with m | m <;> first | exact ha c m | exact ih m)
theorem strOk_strJoin {a : Str} {ts : List Str} (ha : PyData.strOk a = true) (h : ∀ t ∈ ts, PyData.strOk t = true) : PyData.strOk (Str.join a ts) = true := by
  rw [strOk_iff] at *
  rw [TL.tl_join]
  refine strOk_joinL ha fun y m => ?_
  obtain ⟨t, mt, rfl⟩ := List.mem_map.mp m
  exact strOk_iff.mp (h t mt)
theorem strOk_tupleText {ts : List Str} (h : ∀ t ∈ ts, PyData.strOk t = true) : PyData.strOk (tupleText ts) = true := by
  unfold tupleText
  exact strOk_add (strOk_add strOk_lit (strOk_strJoin strOk_lit h)) (by split <;> exact strOk_lit)
mutual
theorem strOk_shown : ∀ {d : PyData}, okR d = true → PyData.strOk d.shown = true
  | .none, _ => by rw [PyData.shown]; exact strOk_lit
  | .bool b, _ => by rw [PyData.shown]; split <;> exact strOk_lit
  | .int i, _ => by rw [PyData.shown]; exact strOk_lit
  | .str z, h => by rw [PyData.shown]; exact strOk_repr (by simpa [okR] using h)
  | .list xs, h => by rw [PyData.shown]; exact strOk_listText (strOk_shownAll (by simpa [okR] using h))
  | .tuple xs, h => by rw [PyData.shown]; exact strOk_tupleText (strOk_shownAll (by simpa [okR] using h))
  | .dict _, h => by simp [okR] at h
theorem strOk_shownAll : ∀ {ds : List PyData}, okRAll ds = true → ∀ t ∈ PyData.shownAll ds, PyData.strOk t = true
  | [], _ => by simp [PyData.shownAll]
  | x :: xs, h => by
    have h' : okR x = true ∧ okRAll xs = true := by simpa [okRAll] using h
    intro t m
    rw [PyData.shownAll] at m
    rcases List.mem_cons.mp m with rfl | m
    · exact strOk_shown h'.1
    · exact strOk_shownAll h'.2 t m
end
mutual
theorem okR_show : ∀ {d : PyData}, okR d = true → d.showable = true
  | .none, _ => by rw [PyData.showable]
  | .bool b, _ => by rw [PyData.showable]
  | .int i, h => int_show (by simpa [okR] using h)
  | .str z, h => by rw [PyData.showable]
  | .list xs, h => by rw [PyData.showable]; exact okR_showAll (by simpa [okR] using h)
  | .tuple xs, h => by rw [PyData.showable]; exact okR_showAll (by simpa [okR] using h)
  | .dict _, h => by simp [okR] at h
theorem okR_showAll : ∀ {ds : List PyData}, okRAll ds = true → PyData.showableAll ds = true
  | [], _ => by rw [PyData.showableAll]
  | x :: xs, h => by
    have h' : okR x = true ∧ okRAll xs = true := by simpa [okRAll] using h
    rw [PyData.showableAll, okR_show h'.1, okR_showAll h'.2]; rfl
end
mutual
theorem okR_dict : ∀ {d : PyData}, okR d = true → d.hasDict = false
  | .none, _ => by rw [PyData.hasDict]
  | .bool b, _ => by rw [PyData.hasDict]
  | .int i, h => by rw [PyData.hasDict]
  | .str z, h => by rw [PyData.hasDict]
  | .list xs, h => by rw [PyData.hasDict]; exact okR_dictAll (by simpa [okR] using h)
  | .tuple xs, h => by rw [PyData.hasDict]; exact okR_dictAll (by simpa [okR] using h)
  | .dict _, h => by simp [okR] at h
theorem okR_dictAll : ∀ {ds : List PyData}, okRAll ds = true → PyData.hasDictAll ds = false
  | [], _ => by rw [PyData.hasDictAll]
  | x :: xs, h => by
    have h' : okR x = true ∧ okRAll xs = true := by simpa [okRAll] using h
    rw [PyData.hasDictAll, okR_dict h'.1, okR_dictAll h'.2]; rfl
end
mutual
theorem okR_short : ∀ {d : PyData}, okR d = true → d.leavesShort 101 = true
  | .none, _ => by rw [PyData.leavesShort]
  | .bool b, _ => by rw [PyData.leavesShort]
  | .int i, h => by rw [PyData.leavesShort]; exact decide_eq_true (int_len (by simpa [okR] using h))
  | .str z, h => by
    rw [PyData.leavesShort, List.all_eq_true]
    intro c m
    have := strOk_iff.mp (by simpa [okR] using h) c m
    exact decide_eq_true (Nat.lt_trans this (by decide))
  | .list xs, h => by rw [PyData.leavesShort]; exact okR_shortAll (by simpa [okR] using h)
  | .tuple xs, h => by rw [PyData.leavesShort]; exact okR_shortAll (by simpa [okR] using h)
  | .dict _, h => by simp [okR] at h
theorem okR_shortAll : ∀ {ds : List PyData}, okRAll ds = true → PyData.leavesShortAll 101 ds = true
  | [], _ => by rw [PyData.leavesShortAll]
  | x :: xs, h => by
    have h' : okR x = true ∧ okRAll xs = true := by simpa [okRAll] using h
    rw [PyData.leavesShortAll, okR_short h'.1, okR_shortAll h'.2]; rfl
end
mutual
def wtR : PyData → Nat
  | .none => 4
  | .bool _ => 5
  | .int _ => 101
  | .str z => 10 * z.length + 2
  | .list xs => wtRAll xs + 3
  | .tuple xs => wtRAll xs + 3
  | .dict _ => 0
def wtRAll : List PyData → Nat
  | [] => 0
  | x :: xs => wtR x + 2 + wtRAll xs
end
mutual
theorem shown_wt : ∀ {d : PyData}, okR d = true → d.shown.length ≤ wtR d
  | .none, _ => by rw [PyData.shown, wtR]; decide
  | .bool b, _ => by rw [PyData.shown, wtR]; cases b <;> decide
  | .int i, h => by rw [wtR]; exact int_len (by simpa [okR] using h)
  | .str z, h => by
    rw [PyData.shown, wtR]
    exact PySem.StrLaws.reprText_len z fun c m => Nat.lt_trans (strOk_iff.mp (by simpa [okR] using h) c m) (by decide)
  | .list xs, h => by
    rw [PyData.shown, wtR]
    have h1 := shown_wtAll (ds := xs) (by simpa [okR] using h)
    have h2 := listText_len_le (PyData.shownAll xs)
    have h3 := PyData.shownAll_length xs
    omega
  | .tuple xs, h => by
    rw [PyData.shown, wtR]
    have h1 := shown_wtAll (ds := xs) (by simpa [okR] using h)
    have h2 := tupleText_len_le (PyData.shownAll xs)
    have h3 := PyData.shownAll_length xs
    omega
  | .dict _, h => by simp [okR] at h
theorem shown_wtAll : ∀ {ds : List PyData}, okRAll ds = true → ((PyData.shownAll ds).map (·.length)).sum + 2 * ds.length ≤ wtRAll ds
  | [], _ => by simp [PyData.shownAll, wtRAll]
  | x :: xs, h => by
    have h' : okR x = true ∧ okRAll xs = true := by simpa [okRAll] using h
    have h1 := shown_wt h'.1
    have h2 := shown_wtAll h'.2
    simp only [PyData.shownAll, wtRAll, List.map_cons, List.sum_cons, List.length_cons]
    omega
end
structure RepOk (d : PyData) : Prop where
  ok : okR d = true ∨ d = .dict []
  wt : wtR d ≤ 16000000
  dp : d.depth ≤ 60
theorem shown_dn : PyData.shown (.dict []) = "{}" := by decide +kernel
theorem RepOk.len {d : PyData} (h : RepOk d) : d.shown.length ≤ sizeLine := by
  rcases h.ok with ho | rfl
  · have := shown_wt ho
    have := h.wt
    simp only [sizeLine]
    omega
  · rw [shown_dn, len_lit]; decide +kernel
theorem RepOk.sh {d : PyData} (h : RepOk d) : SeqAt.shaped (.str d.shown) = true := by
  rcases h.ok with ho | rfl
  · exact sh_str (strOk_shown ho)
  · rw [shown_dn]; exact sh_lit
def fRep : FA := fun ss st Q => match ss with
  | [s] => match vw st s with
    | some d => RepOk d ∧ Q (.d (.str d.shown)) st
    | none => False
  | _ => False
theorem call_reprE {X : Cx} (hA : X.A.guards = some []) (hu : X.A.units + 64 < cLine) : CallR X (.builtin "repr") (fun xs H Q => ∃ a, xs = [.ref a] ∧ H a = some (.dK []) ∧ Q (.str (PyData.shown (.dict []))) H) := by
  intro pins s σ H xs us Q I r h
  obtain ⟨a, rfl, hd, q⟩ := h
  obtain ⟨u, rfl, ru⟩ := vals1 r
  obtain rfl := ru
  have fin : ∀ (h' : Heap) (t : Tok) (k : Nat), (∀ b o, s.heap.get? b = some o → h'.get? b = some o) → EP X pins σ Q (.str (PyData.shown (.dict [])) t) { s with heap := h', toks := k } := fun h' t k hk => ⟨.str _, H, I.kept hk, ⟨_, rfl⟩, q⟩
  have hh := I.hok a _ hd
  unfold L2.ObjOk at hh
  obtain ⟨_, h1, vs, kv, o, es, ep, g1, g2, g3, g4, g5, g6⟩ := hh
  obtain rfl : vs = [] := by cases kv; rfl
  have ees : es.toList = [] := by
    generalize es.toList = l at g5
    cases g5; rfl
  have rd : Reads s.heap (.ref a) (.dict []) ([a] ++ []) := Reads.dict (as := []) (bs := []) g1 g2.1 g3 (by rw [ees]; exact .nil) (by rw [ees]; exact .nil)
  refine repr_of_reads' rd (by decide +kernel) (fun _ m => ?_) hA ?_ (fun _ _ e => e) (fun h' u tk hk => fin h' u tk hk) (by rw [shown_dn, len_lit]; decide +kernel)
  · have : sysModules = a := by simpa using m
    rw [this] at h1
    simp at h1
  · have : (PyData.dict []).depth ≤ 5 := by decide +kernel
    omega
def rShow (K : Frag) : List V → Hp → VK → Prop := fun xs H Q => (∃ x d, xs = [x] ∧ Dp K H x d ∧ d.showable = true ∧ d.hasDict = false ∧ d.depth ≤ 60 ∧ d.shown.length ≤ sizeLine ∧ Q (.str d.shown) H) ∨ ∃ a, xs = [.ref a] ∧ H a = some (.dK []) ∧ Q (.str (PyData.shown (.dict []))) H
theorem call_reprR {X : Cx} (hA : X.A.guards = some []) (hu : X.A.units + 64 < cLine) : CallR X (.builtin "repr") (rShow X.K) := (call_reprD hA hu).or (call_reprE hA hu)
theorem cd_rep {K : Frag} : CallD K (rShow K) fRep := by
  intro Z vs ss Qd Q ok ra w k
  unfold fRep at w
  split at w
  · obtain ⟨v, rfl, r⟩ := rp1 ra
    split at w
    · rename_i d e
      rcases w.1.ok with ho | rfl
      · exact .inl ⟨v, d, rfl, r.dp ok e (okR_dict ho), okR_show ho, okR_dict ho, w.1.dp, w.1.len, k.now ok (.str _) w.2⟩
      · have i := r.data e fun ds h => by cases h
        generalize hd : PyData.dict [] = d at i
        cases i with
        | dct h1 h2 h3 =>
          rename_i a kvs ds
          have e0 : kvs = [] := by
            cases kvs with
            | nil => rfl
            | cons _ _ =>
              cases h3
              simp at hd
          subst e0
          exact .inr ⟨_, rfl, h1, k.now ok (.str _) w.2⟩
        | _ => cases hd
    · exact w.elim
  · exact w.elim
theorem small100 {i : Int} (h0 : -(2 ^ 64) ≤ i) (h1 : i ≤ 2 ^ 64) : i.natAbs < 10 ^ 100 := by
  have : i.natAbs < 10 ^ 20 := by omega
  exact Nat.lt_trans this (by decide +kernel)
theorem okR_ints : ∀ {ns : List Int}, (∀ n ∈ ns, n.natAbs < 10 ^ 100) → okRAll (ns.map .int) = true
  | [], _ => rfl
  | n :: ns, h => by
    rw [List.map_cons, okRAll, okR_ints fun n m => h n (List.mem_cons_of_mem _ m)]
    simpa [okR] using h n List.mem_cons_self
theorem wt_ints : ∀ {ns : List Int}, wtRAll (ns.map .int) = 103 * ns.length
  | [] => by simp [wtRAll]
  | n :: ns => by rw [List.map_cons, wtRAll, wt_ints, List.length_cons, wtR]; omega
structure RepP (w k : Nat) (d : PyData) : Prop where
  ok : okR d = true
  wt : wtR d ≤ w
  dp : d.depth ≤ k
structure RepL (w k : Nat) (ds : List PyData) : Prop where
  ok : okRAll ds = true
  wt : wtRAll ds ≤ w
  dp : PyData.depthAll ds ≤ k
theorem RepP.r {d : PyData} {w k : Nat} (h : RepP w k d) (hw : w ≤ 16000000) (hk : k ≤ 60) : RepOk d := ⟨.inl h.ok, Nat.le_trans h.wt hw, Nat.le_trans h.dp hk⟩
theorem RepP.mono {d : PyData} {w k w2 k2 : Nat} (h : RepP w k d) (hw : w ≤ w2) (hk : k ≤ k2) : RepP w2 k2 d := ⟨h.ok, Nat.le_trans h.wt hw, Nat.le_trans h.dp hk⟩
theorem RepL.nil : RepL 0 0 [] := ⟨rfl, Nat.le_refl _, by simp [PyData.depthAll]⟩
theorem RepL.cons {d : PyData} {ds : List PyData} {w k w2 k2 : Nat} (h : RepP w k d) (h2 : RepL w2 k2 ds) : RepL (w + 2 + w2) (max k k2) (d :: ds) :=
  ⟨by rw [okRAll, h.ok, h2.ok]; rfl, by have := h.wt; have := h2.wt; rw [wtRAll]; omega, by have := h.dp; have := h2.dp; rw [PyData.depthAll]; omega⟩
theorem RepL.lst {ds : List PyData} {w k : Nat} (h : RepL w k ds) : RepP (w + 3) (k + 1) (.list ds) := ⟨by rw [okR]; exact h.ok, by rw [wtR]; have := h.wt; omega, by rw [PyData.depth]; have := h.dp; omega⟩
theorem RepL.tup {ds : List PyData} {w k : Nat} (h : RepL w k ds) : RepP (w + 3) (k + 1) (.tuple ds) := ⟨by rw [okR]; exact h.ok, by rw [wtR]; have := h.wt; omega, by rw [PyData.depth]; have := h.dp; omega⟩
theorem RepL.mono {ds : List PyData} {w k w2 k2 : Nat} (h : RepL w k ds) (hw : w ≤ w2) (hk : k ≤ k2) : RepL w2 k2 ds := ⟨h.ok, Nat.le_trans h.wt hw, Nat.le_trans h.dp hk⟩
theorem RepL.all {w k : Nat} : ∀ {ds : List PyData}, (∀ d ∈ ds, RepP w k d) → RepL ((w + 2) * ds.length) k ds
  | [], _ => RepL.nil.mono (Nat.zero_le _) (Nat.zero_le _)
  | d :: ds, h => by
    have := RepL.cons (h d List.mem_cons_self) (RepL.all fun x m => h x (List.mem_cons_of_mem _ m))
    refine this.mono ?_ (by omega)
    rw [List.length_cons, Nat.mul_add]; omega
theorem rp_i {i : Int} (h : i.natAbs < 10 ^ 100) : RepP 101 0 (.int i) := ⟨by simpa [okR] using h, by simp [wtR], by simp [PyData.depth]⟩
theorem rp_n : RepP 4 0 .none := ⟨rfl, by simp [wtR], by simp [PyData.depth]⟩
theorem rp_s {z : Str} (h : PyData.strOk z = true) : RepP (10 * z.length + 2) 0 (.str z) := ⟨by simpa [okR] using h, by simp [wtR], by simp [PyData.depth]⟩
theorem rp_is {ns : List Int} (h : ∀ n ∈ ns, n.natAbs < 10 ^ 100) : RepL (103 * ns.length) 0 (ns.map .int) := ⟨okR_ints h, by rw [wt_ints]; omega, by rw [depth_ints]; omega⟩
end Pz
set_option maxRecDepth 100000
namespace Pz
open PySem PySem.Spec PyProof.Rows L2 TL
variable [PenC]
theorem szL : sizeLine = 16777216 := rfl
section
variable {g : DG} {tt : DT} {te : DE} {sl : Sls} {st : Sto} {Q : List PyData → Sto → Prop} {ds : List PyData}
theorem lc_map (f : PyData → PyData) (hl : ds.length ≤ 16777216) (h : ∀ d ∈ ds, ∀ R : DK, R (.d (f d)) st → g (.d d) sl st fun sl2 st => te (fun _ _ _ _ => False) sl2 st R) (q : Q (ds.map f) st) : wLcL g wYes te sl ds [] st Q := by
  have main : ∀ (es acc : List PyData), acc.length + es.length ≤ 16777216 → (∀ d ∈ es, d ∈ ds) → Q (acc ++ es.map f) st → wLcL g wYes te sl es acc st Q := by
    intro es
    induction es with
    | nil => intro acc _ _ q; simpa [wLcL] using q
    | cons d es ih =>
      intro acc hl hm q
      have hl' : acc.length < sizeLine := by rw [List.length_cons] at hl; rw [szL]; omega
      exact h d (hm d List.mem_cons_self) (fun s st => match s with
        | .d y => acc.length < sizeLine ∧ wLcL g wYes te sl es (acc ++ [y]) st Q
        | _ => False) ⟨hl', ih _ (by rw [List.length_append, List.length_cons, List.length_nil]; rw [List.length_cons] at hl; omega) (fun x m => hm x (List.mem_cons_of_mem _ m)) (by simpa using q)⟩
  exact main ds [] (by simpa using hl) (fun _ m => m) (by simpa using q)
theorem lc_fil (f : PyData → Option PyData) (hl : ds.length ≤ 16777216) (h : ∀ d ∈ ds, ∀ (R : DK) (S : Sto → Prop), (∀ y, f d = some y → R (.d y) st) → (f d = none → S st) → g (.d d) sl st fun sl2 st => tt (fun _ _ _ _ => False) sl2 st fun b st => if b = true then te (fun _ _ _ _ => False) sl2 st R else S st) (q : Q (ds.filterMap f) st) : wLcL g tt te sl ds [] st Q := by
  have main : ∀ (es acc : List PyData), acc.length + es.length ≤ 16777216 → (∀ d ∈ es, d ∈ ds) → Q (acc ++ es.filterMap f) st → wLcL g tt te sl es acc st Q := by
    intro es
    induction es with
    | nil => intro acc _ _ q; simpa [wLcL] using q
    | cons d es ih =>
      intro acc hl hm q
      have hl' : acc.length < sizeLine := by rw [List.length_cons] at hl; rw [szL]; omega
      refine h d (hm d List.mem_cons_self) (fun s st => match s with
        | .d y => acc.length < sizeLine ∧ wLcL g tt te sl es (acc ++ [y]) st Q
        | _ => False) (fun st => wLcL g tt te sl es acc st Q) (fun y e => ⟨hl', ih _ (by rw [List.length_append, List.length_cons, List.length_nil]; rw [List.length_cons] at hl; omega) (fun x m => hm x (List.mem_cons_of_mem _ m)) (by simpa [List.filterMap_cons, e] using q)⟩) fun e => ih _ (by rw [List.length_cons] at hl; omega) (fun x m => hm x (List.mem_cons_of_mem _ m)) (by simpa [List.filterMap_cons, e] using q)
  exact main ds [] (by simpa using hl) (fun _ m => m) (by simpa using q)
end
theorem tl_sp1 : tl (Str.ofString " ") = [32] := by rw [tl_lit]; decide +kernel
theorem tl_tab1 : tl (Str.ofString "\t") = [9] := by rw [tl_lit]; decide +kernel
theorem tl_empty : tl (Str.ofString "") = [] := by rw [tl_lit]; rfl
theorem tl_add (x y : Str) : tl (x ++ y) = tl x ++ tl y := tl_append x y
theorem len_sp1 : (Str.ofString " ").length = 1 := by rw [len_tl, tl_sp1]; rfl
theorem len_tab1 : (Str.ofString "\t").length = 1 := by rw [len_tl, tl_tab1]; rfl
theorem len_em : (Str.ofString "").length = 0 := by rw [len_tl, tl_empty]; rfl
def toN : PyData → Nat
  | .int i => i.toNat
  | _ => 0
def toI : PyData → Int
  | .int i => i
  | _ => 0
theorem at_last {α : Type} {xs : List α} {y : α} : atI (xs ++ [y]) (-1) = some y := by
  unfold atI
  rw [ixN_m1 (by simp)]
  simp
end Pz
set_option maxRecDepth 100000
namespace Pz
open PySem PySem.Spec PyProof.Rows L2 TL
variable [PenC]
section
variable {X : Cx} {E : WXs} {Z0 : Zs} {a b c e : Expr} {es : List Expr} {ta tb tc te : DE} {t : DA} {pos p : Pos} {x : Str} {K : Frag}
def oIxE (s t : Sl) (st : Sto) (Q : DK) : Prop := match vw st s, vw st t with
  | some (.list ds), some (.int i) => ∃ d, atI ds i = some d ∧ Q (.d d) st
  | some (.tuple ds), some (.int i) => ∃ d, atI ds i = some d ∧ Q (.d d) st
  | some (.str z), some (.int i) => z.length ≤ sizeLine ∧ ∃ c, atI (tl z) i = some c ∧ Q (.d (.str ⟨#[c]⟩)) st
  | _, _ => False
theorem oIxE_ok {s t : Sl} {st : Sto} {Q : DK} (h : oIxE s t st Q) : oIx s t st Q := by
  unfold oIxE at h
  unfold oIx
  split at h
  · obtain ⟨d, e, q⟩ := h
    rename_i e1 e2
    first | (rw [e1, e2]; dsimp only; rw [e]; exact q) | (rw [e]; exact q)
  · obtain ⟨d, e, q⟩ := h
    rename_i e1 e2
    first | (rw [e1, e2]; dsimp only; rw [e]; exact q) | (rw [e]; exact q)
  · obtain ⟨hz, d, e, q⟩ := h
    rename_i e1 e2
    first | (rw [e1, e2]; dsimp only; rw [e]; exact ⟨hz, q⟩) | (rw [e]; exact ⟨hz, q⟩)
  · exact h.elim
theorem d2_ixE : D2 K (rIx K) oIxE := fun Z v u s t Qd Q ok r1 r2 w k => d2_ix Z v u s t Qd Q ok r1 r2 (oIxE_ok w) k
theorem de_ixE (ha : DEx X E a ta) (hb : DEx X E b tb) (hs : PlainIx b := by intro _ _; rfl) : DEx X E (.Subscript a b pos) (wOp oIxE ta tb) := ⟨peI (pe_ix ix_seq ha.run hb.run hs) (wOp_ok d2_ixE)⟩
end
theorem Ints.cons {P : Int → Prop} {x : Int} {ds : List PyData} (h : P x) (h2 : Ints P ds) : Ints P (.int x :: ds) := fun d m => by
  rcases List.mem_cons.mp m with rfl | m
  · exact ⟨x, rfl, h⟩
  · exact h2 d m
theorem Ints.imp {P R : Int → Prop} {ds : List PyData} (h : Ints P ds) (k : ∀ x, P x → R x) : Ints R ds := fun d m => by
  obtain ⟨x, rfl, hx⟩ := h d m
  exact ⟨x, rfl, k x hx⟩
theorem Ints.tail {P : Int → Prop} {d : PyData} {ds : List PyData} (h : Ints P (d :: ds)) : Ints P ds := fun z m => h z (List.mem_cons_of_mem _ m)
theorem Ints.head {P : Int → Prop} {d : PyData} {ds : List PyData} (h : Ints P (d :: ds)) : ∃ x, d = .int x ∧ P x := h d List.mem_cons_self
theorem Ints.asInts {P : Int → Prop} : ∀ {ds : List PyData}, Ints P ds → Pz.asInts ds = some (ds.map toI)
  | [], _ => rfl
  | d :: ds, h => by
    obtain ⟨x, rfl, hx⟩ := h.head
    simp [Pz.asInts, Ints.asInts h.tail, toI]
theorem Ints.eq {P : Int → Prop} {ds : List PyData} (h : Ints P ds) : ds = (ds.map toI).map .int := asInts_eq h.asInts
theorem Ints.toI {P : Int → Prop} {ds : List PyData} (h : Ints P ds) : ∀ x ∈ ds.map Pz.toI, P x := fun x m => by
  obtain ⟨d, md, rfl⟩ := List.mem_map.mp m
  obtain ⟨y, rfl, hy⟩ := h d md
  exact hy
theorem Ints.of {P : Int → Prop} {ns : List Int} (h : ∀ x ∈ ns, P x) : Ints P (ns.map .int) := fun d m => by
  obtain ⟨x, mx, rfl⟩ := List.mem_map.mp m
  exact ⟨x, rfl, h x mx⟩
theorem Ints.rng {lo : Int} {n : Nat} : Ints (fun x => lo ≤ x ∧ x < lo + n) (rng lo n) := fun d m => by
  unfold Pz.rng at m
  obtain ⟨i, mi, rfl⟩ := List.mem_map.mp m
  exact ⟨_, rfl, by omega, by have := List.mem_range.mp mi; omega⟩
section
variable {K : Frag}
def mPopAt : FM := fun s ss st Q => match s, ss with
  | .o h, [t] => match st[h]?, vw st t with
    | some (.lst ds), some (.int i) => -(2 ^ 63) ≤ i ∧ i < 2 ^ 63 ∧ ∃ d, atI ds i = some d ∧ ∃ k, ixN ds.length i = some k ∧ Q (.d d) (st.set h (.lst (ds.eraseIdx k)))
    | _, _ => False
  | _, _ => False
end
section
variable {X : Cx} {E : WXs} {Z0 : Zs} {a b : Expr} {ta tb : DE} {pos p p2 pos2 : Pos}
structure DRg (X : Cx) (E : WXs) (e : Expr) (τ : DX → Sls → Sto → (Int → Int → Sto → Prop) → Prop) : Prop where
  run : PRg X e fun σ H Q => ∃ (Z : Zs) (sl : Sls) (Qd : Int → Int → Sto → Prop) (Ed : DX), Z.H = H ∧ Ok X.K Z ∧ SlOk X.K Z σ sl ∧ τ Ed sl Z.st Qd ∧ (∀ (Z' : Zs) (i j : Int), Le Z Z' → Ok X.K Z' → Qd i j Z'.st → Q i j Z'.H) ∧ KXOk X.K Z Ed E
def wRg1 (ta : DE) : DX → Sls → Sto → (Int → Int → Sto → Prop) → Prop := fun Ed sl st Q => ta Ed sl st fun s st => match vw st s with
  | some (.int j) => Q 0 j st
  | _ => False
def wRg2 (ta tb : DE) : DX → Sls → Sto → (Int → Int → Sto → Prop) → Prop := fun Ed sl st Q => ta Ed sl st fun s st => tb Ed sl st fun t st => match vw st s, vw st t with
  | some (.int i), some (.int j) => Q i j st
  | _, _ => False
theorem drg_1 (hg : Gl X "range") (hm : X.mg "range" = none) (ha : DEx X E a ta) (na : starEach [a] X.env = (false, eval a X.env) :: starEach [] X.env := by rfl) : DRg X E (.Call (.Name "range" p) [a] [] pos) (wRg1 ta) :=
  ⟨fun pins s σ H Q I ⟨Z, sl, Qd, Ed, h, ok, so, w, k, kx⟩ => prg_1 hg hm ha.run na pins s σ H Q I ⟨Z, sl, _, Ed, h, ok, so, w, fun Z1 v s l1 ok1 r1 w1 => by
    simp only at w1
    split at w1
    · rename_i j e
      obtain rfl := r1.int e
      exact ⟨j, rfl, k Z1 0 j l1 ok1 w1⟩
    · exact w1.elim, kx⟩⟩
def wListRg (tr : DX → Sls → Sto → (Int → Int → Sto → Prop) → Prop) : DE := fun Ed sl st Q => tr Ed sl st fun i j st => RgOk i j ∧ Q (.d (.list (rng i (j - i).toNat))) st
theorem rg_im {K : Frag} {W : Addr → Prop} {H : Hp} (i j : Int) : ImAll K W H (rgV i j) (rng i (j - i).toNat) := by
  have := ints_im (K := K) (W := W) (H := H) ((List.range (j - i).toNat).map fun k => i + (k : Nat))
  rw [List.map_map, List.map_map] at this
  exact this
theorem de_listRg {e : Expr} {tr : DX → Sls → Sto → (Int → Int → Sto → Prop) → Prop} (hc : X.calm = true) (hg : Gl X "list") (hm : X.mg "list" = none) (he : DRg X E e tr) (na : starEach [e] X.env = (false, eval e X.env) :: starEach [] X.env := by rfl) : DEx X E (.Call (.Name "list" p) [e] [] pos) (wListRg tr) :=
  ⟨peI (pe_listRg hc hg hm he.run na) fun σ H Q ⟨Z, sl, Qd, Ed, h, ok, so, w, k, kx⟩ => ⟨Z, sl, _, Ed, h, ok, so, w, fun Z' i j l ok' q => ⟨q.1, (k.le l).newL ok' (rg_im i j) q.2⟩, kx⟩⟩
end
theorem wRg1_ap {ta : DE} {Ed : DX} {sl : Sls} {st : Sto} {Q : Int → Int → Sto → Prop} : wRg1 ta Ed sl st Q = (ta Ed sl st fun s st => match vw st s with
  | some (.int j) => Q 0 j st
  | _ => False) := rfl
theorem wRg2_ap {ta tb : DE} {Ed : DX} {sl : Sls} {st : Sto} {Q : Int → Int → Sto → Prop} : wRg2 ta tb Ed sl st Q = (ta Ed sl st fun s st => tb Ed sl st fun t st => match vw st s, vw st t with
  | some (.int i), some (.int j) => Q i j st
  | _, _ => False) := rfl
theorem wListRg_ap {tr : DX → Sls → Sto → (Int → Int → Sto → Prop) → Prop} {Ed : DX} {sl : Sls} {st : Sto} {Q : DK} : wListRg tr Ed sl st Q = (tr Ed sl st fun i j st => RgOk i j ∧ Q (.d (.list (rng i (j - i).toNat))) st) := rfl
end Pz
set_option maxRecDepth 100000
namespace Pz
open PySem PySem.Spec PyProof.Rows L2 TL SrtO
variable [PenC]
section
variable {prog : Program} {w : World} {A : Around} {E : Value → Shared → Prop} {s : Shared} {l : Addr} {its : List Value} {ns : List Int} {Q : Value → Shared → Prop}
theorem iterT {items : Array Value} (hl : s.heap.IsTuple l items)
    (h : ∀ s₂ : Shared, s₂ = { s with heap := s.heap.push { cls := .type "tuple_iterator", data := .fields #[.ref l, .int 0 0] } } →
      (s₂.heap.IsTupleIter s.heap.objs.size l 0 ∧ s₂.heap.IsTuple l items) → (∀ b ∈ [s.heap.objs.size, l], b < s₂.heap.objs.size) → l ≠ s.heap.objs.size → Q (.ref s.heap.objs.size) s₂) :
    wpAny (model prog w) A (pyIter (.ref l)) Q E s := by
  have hlt : l < s.heap.objs.size := by obtain ⟨_, e, _⟩ := hl; exact Heap.lt_size e
  have hp : ∀ o, (s.heap.push o).IsTuple l items := fun o => by
    obtain ⟨o', e, c, n, d⟩ := hl
    exact ⟨o', Heap.get?_push_of_some _ e, c, n, d⟩
  refine wpAny_pyIter_tuple hl (h _ rfl ⟨⟨_, Heap.get?_push_size _ rfl, rfl, rfl⟩, hp _⟩ (fun b hb => ?_) (Nat.ne_of_lt hlt))
  show b < (s.heap.push _).objs.size
  rw [Heap.size_push]
  rcases List.mem_cons.mp hb with rfl | hb
  · exact Nat.lt_succ_self _
  · rw [List.mem_singleton.mp hb]; exact Nat.lt_succ_of_lt hlt
theorem keptT {h' : Heap} {o : Obj} (hk : ∀ b o', b ∉ [s.heap.objs.size] → (s.heap.push o).get? b = some o' → h'.get? b = some o') : ∀ b o, s.heap.get? b = some o → h'.get? b = some o := fun b o e => by
  refine hk b o (fun hm => ?_) (Heap.get?_push_of_some _ e)
  rw [List.mem_singleton.mp hm] at e
  exact absurd (Heap.lt_size e) (Nat.lt_irrefl _)
theorem max_rawT (hh : A.handled = none) (hl : s.heap.IsTuple l its.toArray) (hi : IntsAre its ns) (hne : 0 < ns.length)
    (h : ∀ h' tk M t', (∀ b o, s.heap.get? b = some o → h'.get? b = some o) → M ∈ ns → (∀ a, a ∈ ns → a ≤ M) → Q (.int M t') { s with heap := h', toks := tk }) : wpAny (model prog w) A (call (.builtin "max") [.ref l]) Q E s := by
  obtain ⟨xs, e⟩ := hi.allInts.items
  have hn : numsOf (intItems xs).toList = ns := by rw [← e]; exact hi.numsOf
  rw [nums_intItems] at hn
  subst hn
  rw [e] at hl
  have hsz : 0 < xs.size := by simpa using hne
  refine call_max_walk (iterT hl fun s₂ e st hfp hlI => ?_)
  subst e
  refine ⟨_, _, _, _, _, _, _, rfl, Walks.tuple (A := A.in1) hh _ l hlI (intItems xs), st, hfp, by simpa [intItems] using hsz, CmpOf.ints_gt (numAt xs) (fun _ _ => intItems_at), fun v h' tk hP hk => ?_⟩
  have hv : (intItems xs)[argBest (fun i j => decide (numAt xs i > numAt xs j)) (xs.size - 1)]? = some v := by simpa [intItems] using hP
  obtain ⟨t, rfl⟩ := intItems_at hv
  obtain ⟨h1, h2⟩ := argBest_gt (numAt xs) (xs.size - 1)
  refine h h' tk _ t (keptT hk) ?_ fun a ha => ?_
  · rw [numAt_eq]; exact PySem.getD_mem (by rw [List.length_map, Array.length_toList]; omega)
  · obtain ⟨j, hj, rfl⟩ := mem_getD ha
    rw [List.length_map, Array.length_toList] at hj
    rw [← numAt_eq]; exact h2 j (by omega)
theorem collectT {vs : List Value} {Q : List Value → Shared → Prop} (hl : s.heap.IsTuple l vs.toArray)
    (h : Q vs { s with heap := (s.heap.push (seqObj "list" #[] 0)).update s.heap.objs.size (Obj.mapSeq (· ++ vs.toArray)) }) (hsz : vs.length ≤ sizeLine) :
    wpAny (model prog w) A (collect (.ref l)) Q E s := by
  obtain ⟨o, ho, hc, n, hd⟩ := id hl
  unfold collect
  refine wpAny_bind (wpAny_runValue (codeAny_builtin entry_proto_collect' ?_))
  show wpAny _ _ (do again (.builtin "list.__iadd__" ⟨[← newList [], .ref l], []⟩)) _ _ s
  refine wpAny_bind (wpAny_newList (wpAny_pure ⟨Code.quiet_builtin _ (by decide +kernel), codeAny_builtin entry_list_iadd' ?_⟩))
  show wpAny _ _ (Builtin.List.listExtendWith (.ref s.heap.objs.size) (.ref l) (.ref s.heap.objs.size)) _ _ { s with heap := s.heap.push (seqObj "list" #[] 0) }
  unfold Builtin.List.listExtendWith
  have ho' : (s.heap.push (seqObj "list" #[] 0)).get? l = some o := Heap.get?_push_of_some _ ho
  refine wpAny_bind (wpAny_typeOf (T := "tuple") ⟨o, ho', hc⟩ ?_)
  have ht : (Value.type "tuple" == Value.type "tuple") = true := by rfl
  rw [if_pos (by rw [ht]; simp)]
  refine wpAny_bind (listItems_at ho' hd ?_)
  refine wpAny_bind (listItems_at (xs := #[]) (n := 0) (Heap.get?_push_size _ rfl) rfl ?_)
  rw [if_neg (by simp)]
  refine wpAny_bind (listUpdate_at (xs := #[]) (n := 0) (Heap.get?_push_size _ rfl) rfl ?_ (Nat.zero_le _) (by show (#[] ++ vs.toArray).size ≤ sizeLine + 1; simp only [Array.size_append, List.size_toArray, List.length_nil]; omega))
  refine wpAny_pure ?_
  show wpAny (model prog w) A (do
      let o ← load s.heap.objs.size
      match o.data with
      | .seq xs _ => pure xs.toList
      | _ => unsupported "internal:collect") Q E { s with heap := (s.heap.push (seqObj "list" #[] 0)).update s.heap.objs.size (Obj.mapSeq (· ++ vs.toArray)) }
  refine wpAny_bind (wpAny_load (get?_update_seq (Heap.get?_push_size _ rfl) _) ?_)
  show wpAny _ _ (pure ((#[] : Array Value) ++ vs.toArray).toList) Q E _
  rw [show ((#[] : Array Value) ++ vs.toArray).toList = vs by simp]
  exact wpAny_pure h
theorem sorted_ordT {vs : List Value} {ltv : Value → Value → Bool} (O : Swo ltv) (hl : s.heap.IsTuple l vs.toArray) (hz : vs.length ≤ sizeLine)
    (hS : 2 ≤ vs.length → ∀ (h₁ : Heap) (a : Addr), h₁.get? a = some (seqObj "list" vs.toArray 0) → (∀ b o, s.heap.get? b = some o → b ≠ a ∧ h₁.get? b = some o) → SortableO prog w A.in1.in1 { s with heap := h₁ } a vs ltv)
    (h : ∀ out : List Value, Srtd ltv out → Stb ltv out vs → Q (.ref (s.heap.objs.size + 1)) { s with heap := sortedAll s.heap vs out.toArray }) :
    wpAny (model prog w) A (call (.builtin "sorted") [.ref l]) Q E s := by
  refine Calls.call_function_entry kind_sorted plain_sorted entry_sorted (args_sorted1 _) ?_
  unfold Builtin.«sorted»
  refine wpAny_bind (m := checkCount "sorted" 1 1 _) (wpAny_pure ?_)
  refine wpAny_bind (collectT hl ?_ hz)
  refine wpAny_bind (wpAny_newList ?_ hz)
  have hsz : ((s.heap.push (seqObj "list" #[] 0)).update s.heap.objs.size (Obj.mapSeq (· ++ vs.toArray))).objs.size = s.heap.objs.size + 1 := by
    rw [Heap.size_update, size_push']
  have hoL : (((s.heap.push (seqObj "list" #[] 0)).update s.heap.objs.size (Obj.mapSeq (· ++ vs.toArray))).push (seqObj "list" vs.toArray 0)).get? (s.heap.objs.size + 1) = some (seqObj "list" vs.toArray 0) := by
    rw [← hsz]; exact Heap.get?_push_size _ rfl
  have keep : ∀ b o, s.heap.get? b = some o → b ≠ s.heap.objs.size + 1 ∧ (((s.heap.push (seqObj "list" #[] 0)).update s.heap.objs.size (Obj.mapSeq (· ++ vs.toArray))).push (seqObj "list" vs.toArray 0)).get? b = some o := fun b o q => by
    have hlt : b < s.heap.objs.size := Heap.lt_size q
    refine ⟨Nat.ne_of_lt (Nat.lt_succ_of_lt hlt), Heap.get?_push_of_some _ ?_⟩
    rw [Heap.get?_update_ne _ _ _ _ (Nat.ne_of_lt hlt)]
    exact Heap.get?_push_of_some _ q
  show wpAny _ _ _ _ _ { s with heap := ((s.heap.push (seqObj "list" #[] 0)).update s.heap.objs.size (Obj.mapSeq (· ++ vs.toArray))).push (seqObj "list" vs.toArray 0) }
  rw [hsz]
  refine wpAny_bind (wpAny_holding (wpAny_call_entry slot_list_sort ⟨_, hoL, rfl⟩ entry_list_sort (list_sort_ord O hoL hz (fun h2 => hS h2 _ _ hoL keep) fun out hs hb => ⟨_, rfl, ?_⟩) (args_list_sort _)))
  exact wpAny_pure ⟨_, rfl, h out hs hb⟩
end
section
variable {X : Cx} {K : Frag}
def rSumT (K : Frag) : List V → Hp → VK → Prop := fun vs H Q => ∃ (a : Addr) (ns : List Int), vs = [V.ref a] ∧ SqT K H a (ns.map V.int) ∧ Q (.int ns.sum) H
def rMaxT (K : Frag) : List V → Hp → VK → Prop := fun vs H Q => ∃ (a : Addr) (ns : List Int), vs = [V.ref a] ∧ SqT K H a (ns.map V.int) ∧ 0 < ns.length ∧ ∀ m, m ∈ ns → (∀ y, y ∈ ns → y ≤ m) → Q (.int m) H
def rMinT (K : Frag) : List V → Hp → VK → Prop := fun vs H Q => ∃ (a : Addr) (ns : List Int), vs = [V.ref a] ∧ SqT K H a (ns.map V.int) ∧ 0 < ns.length ∧ ∀ m, m ∈ ns → (∀ y, y ∈ ns → m ≤ y) → Q (.int m) H
def rSortedIT (K : Frag) : List V → Hp → VK → Prop := fun vs H Q => ∃ (a : Addr) (ns : List Int), vs = [V.ref a] ∧ SqT K H a (ns.map V.int) ∧ ∀ (ns' : List Int) (p : Addr), ns'.Perm ns → ns'.Pairwise (· ≤ ·) → H p = none → Q (.ref p) (upd H p (.lst (ns'.map V.int)))
theorem cr_maxT (hc : X.calm = true) : CallR X (.builtin "max") (rMaxT X.K) := by
  intro pins s σ H vs us Q I r h
  obtain ⟨a, ns, rfl, hs, hne, q⟩ := h
  obtain ⟨its, rv, hl, _⟩ := I.tuple hs
  rw [Vals.ref1 r]
  exact max_rawT (I.ok.hd hc) hl rv.ints hne fun h' tk m t' hk h1 h2 => ⟨.int _, H, I.kept hk, ⟨_, rfl⟩, q m h1 h2⟩
theorem cr_sortedIT : CallR X (.builtin "sorted") (rSortedIT X.K) := by
  intro pins s σ H vs us Q I r h
  obtain ⟨a, ns, rfl, hs, q⟩ := h
  obtain ⟨its, rv, hl, hz⟩ := I.tuple hs
  rw [Vals.ref1 r]
  have hi := rv.ints
  refine sorted_ordT SrtO.swo_int hl (by rw [← rv.length]; exact hz) (fun h2 h₁ a' _ _ => SrtO.ints_sortable hi h2) fun out h1 h2 => ?_
  obtain ⟨k1, k2, k3⟩ := SrtO.ints_out hi h1 h2
  obtain ⟨ep, he'⟩ := PyProof.Rows.sortedAll_at s.heap its out.toArray
  have hlen : ((out.map SrtO.iv).map V.int).length ≤ sizeLine := by
    rw [List.length_map, k2.length_eq]
    rw [List.length_map] at hz
    exact hz
  exact ⟨.ref _, upd H (s.heap.objs.size + 1) (.lst ((out.map SrtO.iv).map V.int)), I.laid (t' := s.toks) (fun _ _ => PyProof.Rows.sortedAll_old) (Nat.le_succ _) ⟨hlen, out, ep, vals_of_ints k1, he'⟩, rfl, q _ _ k2 k3 (I.hok.fresh (Nat.le_succ _))⟩
def vwJ (st : Sto) (s : Sl) : Option (List Int) := match vw st s with
  | some (.list ds) => asInts ds
  | some (.tuple ds) => asInts ds
  | _ => none
theorem vwJ_ok {Z : Zs} (ok : Ok K Z) {v : V} {s : Sl} {ns : List Int} (r : Rp K Z v s) (e : vwJ Z.st s = some ns) : ∃ a, v = .ref a ∧ (SqL K Z.H a (ns.map V.int) ∨ SqT K Z.H a (ns.map V.int)) := by
  unfold vwJ at e
  split at e
  · rename_i ds e1
    obtain ⟨a, xs, rfl, h, q⟩ := r.list ok e1
    rw [asInts_eq e] at q
    rw [im_ints q] at h
    exact ⟨a, rfl, .inl (.of h)⟩
  · rename_i ds e1
    obtain ⟨a, xs, rfl, h, q⟩ := r.tuple e1
    rw [asInts_eq e] at q
    rw [im_ints q] at h
    exact ⟨a, rfl, .inr h.sq⟩
  · cases e
def fSumE : FA := fun ss st Q => match ss with
  | [s] => ∃ ns, vwJ st s = some ns ∧ Q (.d (.int ns.sum)) st
  | _ => False
def fSortedE : FA := fun ss st Q => match ss with
  | [s] => ∃ ns, vwJ st s = some ns ∧ Q (.d (.list ((isort ns).map .int))) st
  | _ => False
theorem cd_sortedE : CallD K (fun xs H Q => rSortedI K xs H Q ∨ rSortedIT K xs H Q) fSortedE := by
  intro Z vs ss Qd Q ok ra w k
  unfold fSortedE at w
  split at w
  · obtain ⟨v, rfl, r⟩ := rp1 ra
    obtain ⟨ns, e, w⟩ := w
    obtain ⟨a, rfl, h⟩ := vwJ_ok ok r e
    rcases h with h | h
    · refine .inl ⟨a, ns, rfl, h, fun ms p h1 h2 hp => ?_⟩
      obtain rfl := isort_eq h1 h2
      exact k.newL ok (ints_im _) w p hp
    · refine .inr ⟨a, ns, rfl, h, fun ms p h1 h2 hp => ?_⟩
      obtain rfl := isort_eq h1 h2
      exact k.newL ok (ints_im _) w p hp
  · exact w.elim
theorem lmax_of {ns : List Int} (h : 0 < ns.length) {m : Int} (h1 : m ∈ ns) (h2 : ∀ y ∈ ns, y ≤ m) : m = lmax ns := by
  obtain ⟨a, b⟩ := lmax_mem h
  exact Int.le_antisymm (b m h1) (h2 _ a)
theorem if_max {i j : Int} : (if j > i then j else i) = max i j := by split <;> omega
def fMaxE : FA := fun ss st Q => match ss with
  | [s] => ∃ ns, vwJ st s = some ns ∧ 0 < ns.length ∧ Q (.d (.int (lmax ns))) st
  | [s, t] => match vw st s, vw st t with
    | some (.int i), some (.int j) => Q (.d (.int (max i j))) st
    | _, _ => False
  | _ => False
theorem cd_maxE : CallD K (fun xs H Q => (rMax K xs H Q ∨ rMaxT K xs H Q) ∨ ∃ i j, xs = [.int i, .int j] ∧ Q (.int (if j > i then j else i)) H) fMaxE := by
  intro Z vs ss Qd Q ok ra w k
  unfold fMaxE at w
  split at w
  · obtain ⟨v, rfl, r⟩ := rp1 ra
    obtain ⟨ns, e, hn, w⟩ := w
    obtain ⟨a, rfl, h⟩ := vwJ_ok ok r e
    rcases h with h | h
    · exact .inl (.inl ⟨a, ns, rfl, h, hn, fun m h1 h2 => k.now ok (.int _) (lmax_of hn h1 h2 ▸ w)⟩)
    · exact .inl (.inr ⟨a, ns, rfl, h, hn, fun m h1 h2 => k.now ok (.int _) (lmax_of hn h1 h2 ▸ w)⟩)
  · obtain ⟨v, u, rfl, r1, r2⟩ := rp2 ra
    split at w
    · rename_i i j e1 e2
      obtain rfl := r1.int e1
      obtain rfl := r2.int e2
      exact .inr ⟨i, j, rfl, if_max ▸ k.now ok (.int _) w⟩
    · exact w.elim
  · exact w.elim
def fMinE : FA := fun ss st Q => match ss with
  | [s] => ∃ ns, vwJ st s = some ns ∧ 0 < ns.length ∧ Q (.d (.int (lmin ns))) st
  | [s, t] => match vw st s, vw st t with
    | some (.int i), some (.int j) => Q (.d (.int (min i j))) st
    | _, _ => False
  | _ => False
theorem cr_sortedE : CallR X (.builtin "sorted") (fun xs H Q => rSortedI X.K xs H Q ∨ rSortedIT X.K xs H Q) := cr_sortedI.or cr_sortedIT
theorem cr_maxE (hc : X.calm = true) : CallR X (.builtin "max") (fun xs H Q => (rMax X.K xs H Q ∨ rMaxT X.K xs H Q) ∨ ∃ i j, xs = [.int i, .int j] ∧ Q (.int (if j > i then j else i)) H) := ((cr_max hc).or (cr_maxT hc)).or (call_max2 hc)
theorem vwJ_l {st : Sto} {ds : List PyData} : vwJ st (.d (.list ds)) = asInts ds := rfl
theorem vwJ_t {st : Sto} {ds : List PyData} : vwJ st (.d (.tuple ds)) = asInts ds := rfl
def mJoinE : FM := fun s ss st Q => match ss with
  | [t] => match vw st s with
    | some (.str a) => ∃ ys, vwS st t = some ys ∧ (ys.map (·.length)).sum + ys.length * a.length ≤ 16777216 ∧ Q (.d (.str (Txt.join a ys))) st
    | _ => False
  | _ => False
theorem vwS_l {st : Sto} {ds : List PyData} : vwS st (.d (.list ds)) = asStrs ds := rfl
theorem vwS_t {st : Sto} {ds : List PyData} : vwS st (.d (.tuple ds)) = asStrs ds := rfl
end
theorem eqv_nn : PyData.eqv (.list []) (.list []) = true := rfl
def intsB (ds : List PyData) : Bool := ds.all fun d => match d with
  | .int x => decide (0 ≤ x)
  | _ => false
end Pz
set_option maxRecDepth 100000
namespace Pz
open PySem PySem.Spec PyProof.Rows L2 TL RZ
variable [PenC]
section
variable {X : Cx} {E : WXs} {Z0 : Zs} {a b c e : Expr} {es : List Expr} {ta tb tc te : DE} {t : DA} {pos p tpos : Pos} {x : Str} {K : Frag} {elts : List Expr} {kk : Nat}
def oAddO (x y : Sl) (st : Sto) (Q : DK) : Prop := match vw st x, vw st y with
  | some (.list ds), some (.list es) => ds.length + es.length ≤ sizeLine ∧ Q (.o st.length) (st ++ [.lst (ds ++ es)])
  | _, _ => False
def oMulO (x y : Sl) (st : Sto) (Q : DK) : Prop := match vw st x, vw st y with
  | some (.list ds), some (.int n) => -(2 ^ 63) ≤ n ∧ n < 2 ^ 63 ∧ ds.length * n.toNat ≤ sizeLine ∧ Q (.o st.length) (st ++ [.lst (List.replicate n.toNat ds).flatten])
  | _, _ => False
def rngc (lo c : Int) (n : Nat) : List PyData := (List.range n).map fun i => .int (lo + (i : Nat) * c)
def wRng3 (t : DA) : DI := fun Ed sl st Q => t Ed sl st fun ss st => match ss with
  | [s, s', s''] => match vw st s, vw st s', vw st s'' with
    | some (.int i), some (.int j), some (.int c) => ∃ n, RgC i j c n ∧ Q (rngc i c n) st
    | _, _, _ => False
  | _ => False
def enumD : Nat → List PyData → List PyData
  | _, [] => []
  | k, d :: ds => .tuple [.int (k : Nat), d] :: enumD (k + 1) ds
theorem enum_get : ∀ {ds : List PyData} {k i : Nat} {d : PyData}, (enumD k ds)[i]? = some d → ∃ y, ds[i]? = some y ∧ d = .tuple [.int ((k + i : Nat) : Int), y]
  | [], k, i, d, h => by simp [enumD] at h
  | y :: ds, k, 0, d, h => by simp [enumD] at h; exact ⟨y, rfl, by rw [← h]; simp⟩
  | y :: ds, k, i + 1, d, h => by
    rw [enumD, List.getElem?_cons_succ] at h
    obtain ⟨z, e, rfl⟩ := enum_get h
    exact ⟨z, by simpa using e, by rw [show k + 1 + i = k + (i + 1) by omega]⟩
theorem enum_len : ∀ {ds : List PyData} {k : Nat}, (enumD k ds).length = ds.length
  | [], _ => rfl
  | d :: ds, k => by rw [enumD, List.length_cons, enum_len, List.length_cons]
theorem itd_enum {Z1 : Zs} {a : Addr} {xs : List V} {ds : List PyData} (h : Z1.H a = some (.lst xs)) (n : ¬ Z1.W a) (r : Z1.ImAll K xs ds) : ItD K (Ite K a) Z1 (enumD 0 ds) where
  go := fun Z k ok i hi => by
    rw [enum_len] at hi
    exact ⟨xs, xs[i]'(by rw [r.length]; exact hi), .of (k.f _ _ h n), List.getElem?_eq_getElem _⟩
  stop := fun Z k ok => ⟨xs, .of (k.f _ _ h n), by rw [r.length, enum_len]; exact Nat.le_refl _⟩
  yld := fun Z k ok i v H' d e y => by
    obtain ⟨T, x, rfl, nT, rfl, y⟩ := y
    obtain ⟨z, e', rfl⟩ := enum_get e
    obtain ⟨v', e2, r'⟩ := r.get' e'
    obtain rfl : v' = x := by injection e2.symm.trans (y xs (.of (k.f _ _ h n)))
    have rr : Z.ImAll K [.int ((i : Nat) : Int), v'] [.int ((0 + i : Nat) : Int), z] := by
      rw [Nat.zero_add]
      exact .cons (.int _) (.cons (Im.tr k r') .nil)
    exact ⟨Z.new T (.tup [.int (i : Nat), v']), ok.leNew nT, ok.new nT, rfl, rfl, ok.rpT nT rr⟩
def wEnum (te : DA) : DI := fun Ed sl st Q => te Ed sl st fun ss st => match ss with
  | [.d (.list ds)] => Q (enumD 0 ds) st
  | _ => False
def zipD (ds es : List PyData) : List PyData := List.zipWith (fun a b => .tuple [a, b]) ds es
def wZip (te : DA) : DI := fun Ed sl st Q => te Ed sl st fun ss st => match ss with
  | [.d (.list ds), .d (.list es)] => Q (zipD ds es) st
  | [.d (.tuple ds), .d (.tuple es)] => Q (zipD ds es) st
  | _ => False
theorem wRng3_ap {t : DA} {Ed : DX} {sl : Sls} {st : Sto} {Q : List PyData → Sto → Prop} : wRng3 t Ed sl st Q = (t Ed sl st fun ss st => match ss with
  | [s, s', s''] => match vw st s, vw st s', vw st s'' with
    | some (.int i), some (.int j), some (.int c) => ∃ n, RgC i j c n ∧ Q (rngc i c n) st
    | _, _, _ => False
  | _ => False) := rfl
theorem wEnum_ap {te : DA} {Ed : DX} {sl : Sls} {st : Sto} {Q : List PyData → Sto → Prop} : wEnum te Ed sl st Q = (te Ed sl st fun ss st => match ss with
  | [.d (.list ds)] => Q (enumD 0 ds) st
  | _ => False) := rfl
theorem wZip_ap {te : DA} {Ed : DX} {sl : Sls} {st : Sto} {Q : List PyData → Sto → Prop} : wZip te Ed sl st Q = (te Ed sl st fun ss st => match ss with
  | [.d (.list ds), .d (.list es)] => Q (zipD ds es) st
  | [.d (.tuple ds), .d (.tuple es)] => Q (zipD ds es) st
  | _ => False) := rfl
def spQO (k : Nat) (f : FD) : DSp := fun ss cs Q Ed => match ss, cs with
  | .o 0 :: r, [c] => ∃ n, Pen n c ∧ n + k ≤ 1000000 ∧ f r fun d => match d with
    | .list ds => ∀ c', Pen (n + k) c' → Q (.o 1) [c', .lst ds]
    | _ => False
  | _, _ => False
variable {f : FD} {n k m : Nat} {N : List Str} {τ : DS}
def aQO (k : Nat) (f : FD) (ss : List Sl) (st : Sto) (Q : DK) : Prop := match ss with
  | .o h :: r => ∃ c, st[h]? = some c ∧ ∃ n, Pen n c ∧ n + k ≤ 1000000 ∧ f r fun d => match d with
    | .list ds => ∀ c', Pen (n + k) c' → Q (.o st.length) (st.set h c' ++ [.lst ds])
    | _ => False
  | _ => False
def wCallQO (k : Nat) (f : FD) (t : DA) : DE := fun Ed sl st Q => t Ed sl st fun ss st => aQO k f ss st Q
theorem wCallQO_ap {f : FD} {t : DA} {Ed : DX} {sl : Sls} {st : Sto} {Q : DK} : wCallQO k f t Ed sl st Q = (t Ed sl st fun ss st => aQO k f ss st Q) := rfl
variable {fa : Addr} {fd : FuncData} {ps : List Str}
end
theorem ret1_o2 {C D : Ct} {ds : List PyData} {st : Sto} {Q : DK} : Ret 1 (.o 2) (C :: D :: .lst ds :: st) Q = (Cl 1 C ∧ Q (.o 1) [C, .lst ds]) := by simp [Ret, Ct.live, Cl]
theorem seq_cut {t u : DS} {nx bk ct : Sls → Sto → Prop} {rt : DK} {ex : DX} {sl : Sls} {σ : Sto} (J : Sls → Sto → Prop) (h1 : ∀ R : Sls → Sto → Prop, (∀ sl st, J sl st → R sl st) → t ⟨R, rt, ex, bk, ct⟩ sl σ)
    (h2 : ∀ sl st, J sl st → u ⟨nx, rt, ex, bk, ct⟩ sl st) : wSeq t u ⟨nx, rt, ex, bk, ct⟩ sl σ := h1 _ h2
theorem Ints.get {P : Int → Prop} {ds : List PyData} {i : Int} (h : Ints P ds) (h0 : 0 ≤ i) (h1 : i < ds.length) : ∃ x, ds[i.toNat]? = some (.int x) ∧ atI ds i = some (.int x) ∧ ixN ds.length i = some i.toNat ∧ P x := by
  obtain ⟨y, e, m⟩ := atI_lt h0 h1
  obtain ⟨x, rfl, hx⟩ := h y m
  exact ⟨x, by rw [← atI_at h0 h1]; exact e, e, ixN_lt h0 h1, hx⟩
theorem eqv_nilL {ds : List PyData} : PyData.eqv (.list ds) (.list []) = ds.isEmpty := by cases ds <;> rfl
theorem rng_succ {lo : Int} {n : Nat} : rng lo (n + 1) = .int lo :: rng (lo + 1) n := by
  unfold rng
  rw [List.range_succ_eq_map, List.map_cons, List.map_map]
  simp only [Int.natCast_zero, Int.add_zero]
  congr 1
  refine List.map_congr_left fun i _ => ?_
  simp only [Function.comp]
  congr 1
  omega
end Pz
set_option maxRecDepth 100000
namespace Pz
open PySem PySem.Spec PyProof.Rows L2 TL RZ
variable [PenC]
section
variable {X : Cx} {K : Frag}
def idxD (ds : List PyData) (d : PyData) : Option Nat := ds.findIdx? fun z => PyData.eqv z d
def mIndex : FM := fun s ss st Q => match ss with
  | [t] => match vw st s, vw st t with
    | some (.list ds), some d => SeqAt.shaped (.list ds) = true ∧ SeqAt.shaped d = true ∧ ∃ j, idxD ds d = some j ∧ Q (.d (.int (j : Nat))) st
    | _, _ => False
  | _ => False
def trimS (n : Nat) : Option Sl → Option Sl
  | some (.o h) => if h < n then some (.o h) else none
  | s => s
theorem slok_trim {K : Frag} {Z Z' : Zs} {n : Nat} {σ : L2.St} {sl : Sls} (so : SlOk K Z σ sl) (hr : ∀ v s, SlIn n s → Rp K Z v s → Rp K Z' v s) : SlOk K Z' σ (sl.map (trimS n)) := by
  refine ⟨by rw [List.length_map]; exact so.len, fun i s e => ?_⟩
  rw [List.getElem?_map] at e
  cases q : sl[i]? with
  | none => rw [q] at e; cases e
  | some o =>
    rw [q] at e
    simp only [Option.map_some, Option.some.injEq] at e
    cases o with
    | none => simp [trimS] at e
    | some s' =>
      obtain ⟨v, ev, rv⟩ := so.has i s' q
      cases s' with
      | o h =>
        simp only [trimS] at e
        split at e
        · cases e; exact ⟨v, ev, hr _ _ (by assumption) rv⟩
        · cases e
      | d x => cases e; exact ⟨v, ev, hr _ _ trivial rv⟩
      | r u => cases e; exact ⟨v, ev, hr _ _ trivial rv⟩
      | l _ _ _ => cases e; exact ⟨v, ev, hr _ _ trivial rv⟩
      | f ns => cases e; exact ⟨v, ev, hr _ _ trivial rv⟩
def wTrim (n0 : Nat) (u : DS) : DS := fun D sl st => ∃ n, n0 ≤ n ∧ (∀ c ∈ st.take n, Cl n c) ∧ u D (sl.map (trimS n)) (st.take n)
theorem wTrim_mk {n0 : Nat} {u : DS} {nx bk ct : Sls → Sto → Prop} {rt : DK} {ex : DX} {sl : Sls} {st : Sto} : wTrim n0 u ⟨nx, rt, ex, bk, ct⟩ sl st = ∃ n, n0 ≤ n ∧ (∀ c ∈ st.take n, Cl n c) ∧ u ⟨nx, rt, ex, bk, ct⟩ (sl.map (trimS n)) (st.take n) := rfl
theorem dss_trim {E : WXs} {Z0 : Zs} {rest : List Stmt} {u : DS} (n0 : Nat) (hn : Z0.st.length = n0) (h : DSs X E Z0 rest u) : DSs X E Z0 rest (wTrim n0 u) :=
  ⟨pssI h.run fun D σ H ⟨Z, sl, Dd, hh, l0, ok, so, w, en⟩ => by
    subst hh
    obtain ⟨n, w1, w2, w3⟩ := w
    have hW : ∀ a, (Zs.mk (Z.φ.take n) (Z.st.take n) Z.H Z.F).W a → Z.W a := by
      rintro a (⟨i, c, e1, e2, e3⟩ | w)
      · have e1' : (Z.φ.take n)[i]? = some a := e1
        have e2' : (Z.st.take n)[i]? = some c := e2
        have hi : i < n := by
          have := (List.getElem?_eq_some_iff.mp e1').1
          rw [List.length_take] at this
          omega
        rw [take_get hi] at e1' e2'
        exact .inl ⟨i, c, e1', e2', e3⟩
      · exact .inr w
    have lt : ∀ {i : Nat} {a : Addr}, (Z.φ.take n)[i]? = some a → i < n := fun e => by
      have := (List.getElem?_eq_some_iff.mp e).1
      rw [List.length_take] at this
      omega
    have ok' : Ok X.K (Zs.mk (Z.φ.take n) (Z.st.take n) Z.H Z.F) := by
      refine ⟨?_, ok.nd.sublist (List.take_sublist _ _), fun i a c e1 e2 => ?_, ok.fo, fun a m => ok.fd a (List.mem_of_mem_take m), ok.tb.less hW⟩
      · show (Z.φ.take n).length = (Z.st.take n).length
        rw [List.length_take, List.length_take, ok.len]
      · have e1' : (Z.φ.take n)[i]? = some a := e1
        have e2' : (Z.st.take n)[i]? = some c := e2
        have hi := lt e1'
        have hc := w2 c (List.mem_of_getElem? e2')
        rw [take_get hi] at e1' e2'
        exact ct_less (Z := Z) (Z' := Zs.mk (Z.φ.take n) (Z.st.take n) Z.H Z.F) (n := n) rfl rfl hW (fun j hj => take_get hj) (fun j hj => take_get hj) hc (ok.ct i a c e1' e2')
    have n0φ : Z0.φ.length = n0 := by rw [← l0.len]; exact hn
    have l' : Le Z0 (Zs.mk (Z.φ.take n) (Z.st.take n) Z.H Z.F) := by
      obtain ⟨ψ, eφ, hψ⟩ := l0.pre
      refine ⟨⟨ψ.take (n - n0), ?_, fun a m => hψ a (List.mem_of_mem_take m)⟩, l0.len, fun i c e => ?_, l0.frm, l0.fgn, l0.dom⟩
      · show Z.φ.take n = _
        rw [eφ, List.take_append, n0φ, List.take_of_length_le (by omega)]
      · obtain ⟨c', q1, q2⟩ := l0.liv i c e
        have hi : i < n := by
          have := (List.getElem?_eq_some_iff.mp e).1
          omega
        exact ⟨c', by show (Z.st.take n)[i]? = _; rw [take_get hi]; exact q1, q2⟩
    refine ⟨Zs.mk (Z.φ.take n) (Z.st.take n) Z.H Z.F, _, Dd, rfl, l', ok', slok_trim so fun v s hs r => rp_less (Z := Z) (Z' := Zs.mk (Z.φ.take n) (Z.st.take n) Z.H Z.F) (n := n) rfl rfl hW (fun j hj => take_get hj) (fun j hj => take_get hj) hs r, w3, en.at ?_⟩
    exact Stay.less hW⟩
end
end Pz
set_option maxRecDepth 100000
namespace Pz
open PySem PySem.Spec PyProof.Rows L2 TL
variable [PenC]
def oIadd (x y : Sl) (st : Sto) (Q : DK) : Prop := match vw st x, vw st y with
  | some (.int i), some (.int j) => Q (.d (.int (i + j))) st
  | some (.str a), some (.str b) => a.length + b.length ≤ sizeLine ∧ Q (.d (.str (a ++ b))) st
  | _, _ => False
def rIadd : R2 := fun x y H Q => rI0 (fun i j => .int (i + j)) x y H Q ∨ (∃ i j, x = .str i ∧ y = .str j ∧ i.length + j.length ≤ sizeLine ∧ Q (.str (i ++ j)) H)
end Pz
set_option maxRecDepth 100000
namespace Pz
open PySem PySem.Spec PyProof.Rows L2 TL
variable [PenC]
section
variable {X : Cx} {E : WXs} {Z0 : Zs} {a b c e : Expr} {es : List Expr} {ta tb tc te ti to : DE} {t : DA} {pos p : Pos} {x : Str} {K : Frag}
theorem de_ty {T : String} (hg : Gl X x) (hm : X.mg x = none) (hv : bootBuiltins x = some (.type T)) (hn : x ≠ "__name__" := by decide) (hd : (x == "__debug__") = false := by decide) : DEx X E (.Name x pos) (wC (.r (.ty T))) :=
  ⟨peI (pe_bltn (v := .ty T) hg hm hv rfl hn hd) fun σ H Q ⟨Z, sl, Qd, Ed, e, ok, so, w, k, kx⟩ => by
    subst e
    exact k Z (.ty T) (.r (.ty T)) (.refl ok) ok rfl w⟩
def tyName : PyData → String
  | .none => "NoneType"
  | .bool _ => "bool"
  | .int _ => "int"
  | .str _ => "str"
  | .list _ => "list"
  | .tuple _ => "tuple"
  | .dict _ => "dict"
def isTyB (T n : String) : Bool := n == T || (T == "int" && n == "bool")
theorem kit_is {K : Frag} : ∀ T ∈ (["int", "bool", "str", "tuple", "list", "dict"] : List String), ∀ n ∈ (["NoneType", "bool", "int", "str", "list", "tuple", "dict"] : List String), PySem.W.kitOne K (.type n) (.type T) = some (isTyB T n) := by
  intro T hT n hn
  simp only [List.mem_cons, List.not_mem_nil, or_false] at hT hn
  rcases hT with rfl | rfl | rfl | rfl | rfl | rfl <;> rcases hn with rfl | rfl | rfl | rfl | rfl | rfl | rfl <;> with_unfolding_all rfl
inductive TyY (K : Frag) (H : Hp) : V → Value → Prop where
  | x {v : V} {t : Value} (h : TyX K H v t) : TyY K H v t
  | fExc {a C : Addr} {d : Option Addr} {W : Addr → Prop} {us : List (Str × V)} (e : H a = some (ExH (.ref C) d a)) (f : XcF K C) (x : XuOk W H us d) : TyY K H (.ref a) (.ref C)
  | fDN {a : Addr} {o : Obj} {kvs : List (Option Int × V)} (e : H a = some (.frz o (NdO kvs a))) : TyY K H (.ref a) (.type "dict")
  | fDT {a : Addr} {o : Obj} {kvs : List (List Key × V)} (e : H a = some (.frz o (.dT kvs))) : TyY K H (.ref a) (.type "dict")
def rIsi2 (K : Frag) : List V → Hp → VK → Prop := fun xs H Q => ∃ (x c : V) (t u : Value) (b : Bool), xs = [x, c] ∧ L2.ClsV c u ∧ TyY K H x t ∧ PySem.W.kitOne K t u = some b ∧ Q (.bl b) H
theorem call_isi2 {X : Cx} : CallR X (.builtin "isinstance") (rIsi2 X.K) := by
  intro pins s σ H xs us Q I r h
  obtain ⟨x, c, t, u, b, rfl, k, ty, e, q⟩ := h
  cases ty with
  | x ty => exact call_isi pins s σ H [x, c] us Q I r ⟨x, c, t, u, b, rfl, k, ty, e, q⟩
  | @fExc a C d W us ea f x =>
    obtain ⟨u1, u2, rfl, r1, r2⟩ := L2.vals2 r
    have e2 := k.eq r2
    subst e2
    cases (show u1 = Value.ref a from r1)
    obtain ⟨⟨oe, vs, he, hz, hd⟩, _⟩ := (show ObjOk X.prog X.w H s.heap a (ExH (.ref C) d a) from I.hok a _ ea)
    have hn : PySem.W.notCls oe = true := by unfold PySem.W.notCls; rw [hd] <;> rfl
    have hI : ∃ od, PySem.W.InstAt s.heap a oe C od := by
      cases d with
      | none => exact ⟨none, he, hz.1, hn, by rw [hz.2]; trivial⟩
      | some dx =>
        obtain ⟨ob, ho⟩ := objOk_get (I.hok dx _ x.2)
        exact ⟨some ob, he, hz.1, hn, by rw [hz.2]; exact ho⟩
    obtain ⟨od, hI⟩ := hI
    exact PySem.W.kia_one (PySem.W.kitx_exc (x := a) (ox := oe) (od := od) f.cl f.ga f.gg f.exC f.cc f.gt f.tk f.ob) I.kIn hI e (fun z => by cases z) fun tk => ⟨.bl b, H, I.tok tk, rfl, q⟩
  | @fDN a o kvs ea =>
    obtain ⟨u1, u2, rfl, r1, r2⟩ := L2.vals2 r
    have e2 := k.eq r2
    subst e2
    cases (show u1 = Value.ref a from r1)
    obtain ⟨⟨_, _, _, vs, _, dd⟩, _⟩ := (show ObjOk X.prog X.w H s.heap a (.frz o (NdO kvs a)) from I.hok a _ ea).2
    obtain ⟨o', es, ep, h1, h2, _⟩ := dd X.prog X.w
    exact PySem.W.kia_one PySem.W.kitx_dict I.kIn ⟨o', h1, h2.1⟩ e (fun z => nomatch z) fun tk => ⟨.bl b, H, I.tok tk, rfl, q⟩
  | @fDT a o kvs ea =>
    obtain ⟨u1, u2, rfl, r1, r2⟩ := L2.vals2 r
    have e2 := k.eq r2
    subst e2
    cases (show u1 = Value.ref a from r1)
    obtain ⟨_, _, _, xs, _, o', es, ep, h1, h2, _⟩ := (show ObjOk X.prog X.w H s.heap a (.frz o (.dT kvs)) from I.hok a _ ea)
    exact PySem.W.kia_one PySem.W.kitx_dict I.kIn ⟨o', h1, h2.1⟩ e (fun z => nomatch z) fun tk => ⟨.bl b, H, I.tok tk, rfl, q⟩
theorem ty_of {Z : Zs} (ok : Ok K Z) {v : V} {s : Sl} {d : PyData} (r : Rp K Z v s) (e : vw Z.st s = some d) : ∃ t, TyY K Z.H v t ∧ ∀ T ∈ (["int", "bool", "str", "tuple", "list"] : List String), PySem.W.kitOne K t (.type T) = some (isTyB T (tyName d)) := by
  have go : ∀ n ∈ (["NoneType", "bool", "int", "str", "list", "tuple", "dict"] : List String), TyY K Z.H v (.type n) → ∃ t, TyY K Z.H v t ∧ ∀ T ∈ (["int", "bool", "str", "tuple", "list"] : List String), PySem.W.kitOne K t (.type T) = some (isTyB T n) := fun n hn h => ⟨_, h, fun T hT => kit_is T (by simp only [List.mem_cons, List.not_mem_nil, or_false] at hT ⊢; rcases hT with h | h | h | h | h <;> simp [h]) n hn⟩
  by_cases hd : ∃ ds, d = .list ds
  · obtain ⟨ds, rfl⟩ := hd
    obtain ⟨a, xs, rfl, h1, _⟩ := r.list ok e
    exact go "list" (by simp) (.x (.base (.lst h1)))
  · have := r.data e fun ds h => hd ⟨ds, h⟩
    cases this with
    | non => exact go "NoneType" (by simp) (.x (.base .non))
    | bl b => exact go "bool" (by simp) (.x (.base (.bl b)))
    | int i => exact go "int" (by simp) (.x (.base (.int i)))
    | str x => exact go "str" (by simp) (.x (.base (.str x)))
    | lst h1 _ _ => exact go "list" (by simp) (.x (.base (.lst h1)))
    | tup h1 _ =>
      refine go "tuple" (by simp) ?_
      rcases h1 with ⟨h1, _⟩ | ⟨_, o, its, n, h1, h2, _⟩
      · exact .x (.base (.tup h1))
      · exact .x (.kTuple h1 h2)
    | dct h1 _ _ => exact go "dict" (by simp) (.x (.base (.dK h1)))
    | dcl h1 _ _ => exact go "dict" (by simp) (.x (.fDict h1))
    | dcT h1 _ _ => exact go "dict" (by simp) (.fDT h1)
    | dcN h1 _ _ => exact go "dict" (by simp) (.fDN h1)
    | exc _ k h1 _ h2 _ =>
      obtain ⟨C, rfl, f, g⟩ := k
      refine ⟨.ref C, .fExc h1 f h2, fun T hT => ?_⟩
      rw [g T hT]
      simp only [List.mem_cons, List.not_mem_nil, or_false] at hT
      rcases hT with rfl | rfl | rfl | rfl | rfl <;> with_unfolding_all rfl
def okTy (T : String) : Bool := (["int", "bool", "str", "tuple", "list"] : List String).contains T
def fIsi : FA := fun ss st Q => match ss with
  | [s, .r (.ty T)] => match vw st s with
    | some d => okTy T = true ∧ Q (.d (.bool (isTyB T (tyName d)))) st
    | none => False
  | _ => False
theorem cd_isi : CallD K (rIsi2 K) fIsi := by
  intro Z vs ss Qd Q ok ra w k
  unfold fIsi at w
  split at w
  · rename_i s T
    obtain ⟨v, u, rfl, r1, r2⟩ := rp2 ra
    have r2' : u = .ty T := r2
    subst r2'
    split at w
    · rename_i d e
      obtain ⟨t, h1, h2⟩ := ty_of ok r1 e
      exact ⟨v, .ty T, t, _, _, rfl, .ty T, h1, h2 T (by simpa [okTy] using w.1), k.now ok (.bl _) w.2⟩
    · exact w.elim
  · exact w.elim
abbrev KD := List (Key × PyData)
def valD (kvs : KD) (k : Key) : Option PyData := (kvs.find? fun kv => decide (kv.1 = k)).map (·.2)
def putD (kvs : KD) (k : Key) (d : PyData) : KD := if (kvs.any fun kv => decide (kv.1 = k)) = true then kvs.map fun kv => if kv.1 = k then (kv.1, d) else kv else kvs ++ [(k, d)]
def mergeD (kvs more : KD) : KD := more.foldl (fun acc kv => putD acc kv.1 kv.2) kvs
def keyOf : PyData → Option Key
  | .int i => some (.inl i)
  | .str z => some (.inr z)
  | _ => none
def ImKD (K : Frag) (W : Addr → Prop) (H : Hp) (us : List (Key × V)) (kvs : KD) : Prop := us.map (·.1) = kvs.map (·.1) ∧ ImAll K W H (us.map (·.2)) (kvs.map (·.2))
section
variable {W : Addr → Prop} {H : Hp}
theorem ImKD.nil : ImKD K W H [] [] := ⟨rfl, .nil⟩
theorem ImKD.inv {us : List (Key × V)} {kvs : KD} (h : ImKD K W H us kvs) : (us = [] ∧ kvs = []) ∨ ∃ k v d us' kvs', us = (k, v) :: us' ∧ kvs = (k, d) :: kvs' ∧ Im K W H v d ∧ ImKD K W H us' kvs' := by
  obtain ⟨h1, h2⟩ := h
  cases us with
  | nil => cases kvs with
    | nil => exact .inl ⟨rfl, rfl⟩
    | cons _ _ => cases h1
  | cons u us => cases kvs with
    | nil => cases h1
    | cons kv kvs =>
      obtain ⟨k, v⟩ := u
      obtain ⟨k', d⟩ := kv
      simp only [List.map_cons, List.cons.injEq] at h1
      obtain ⟨rfl, h1⟩ := h1
      cases h2 with
      | cons q r => exact .inr ⟨k, v, d, us, kvs, rfl, rfl, q, h1, r⟩
theorem ImKD.cons {k : Key} {v : V} {d : PyData} {us : List (Key × V)} {kvs : KD} (q : Im K W H v d) (h : ImKD K W H us kvs) : ImKD K W H ((k, v) :: us) ((k, d) :: kvs) := ⟨by rw [List.map_cons, List.map_cons, h.1], .cons q h.2⟩
theorem ImKD.app : ∀ {us us' : List (Key × V)} {kvs kvs' : KD}, ImKD K W H us kvs → ImKD K W H us' kvs' → ImKD K W H (us ++ us') (kvs ++ kvs') := fun h h' => ⟨by rw [List.map_append, List.map_append, h.1, h'.1], by rw [List.map_append, List.map_append]; exact h.2.append h'.2⟩
theorem ImKD.any {k : Key} : ∀ {us : List (Key × V)} {kvs : KD}, ImKD K W H us kvs → (us.any fun kv => decide (kv.1 = k)) = (kvs.any fun kv => decide (kv.1 = k))
  | [], _, h => by rcases h.inv with ⟨_, rfl⟩ | ⟨_, _, _, _, _, e, _⟩; rfl; cases e
  | u :: us, _, h => by
    rcases h.inv with ⟨e, _⟩ | ⟨k', v, d, us', kvs', e, rfl, q, h'⟩
    · cases e
    · cases e
      rw [List.any_cons, List.any_cons, ImKD.any h']
theorem ImKD.val {k : Key} {d : PyData} : ∀ {us : List (Key × V)} {kvs : KD}, ImKD K W H us kvs → valD kvs k = some d → ∃ v, valV us k = some v ∧ Im K W H v d
  | [], _, h, e => by rcases h.inv with ⟨_, rfl⟩ | ⟨_, _, _, _, _, e', _⟩; cases e; cases e'
  | u :: us, _, h, e => by
    rcases h.inv with ⟨e', _⟩ | ⟨k', v, d', us', kvs', e', rfl, q, h'⟩
    · cases e'
    · cases e'
      by_cases hk : k' = k
      · subst hk
        simp [valD] at e
        subst e
        exact ⟨v, by simp [valV], q⟩
      · have e2 : valD kvs' k = some d := by simpa [valD, hk] using e
        obtain ⟨v', h1, h2⟩ := ImKD.val h' e2
        exact ⟨v', by simpa [valV, hk] using h1, h2⟩
theorem ImKD.noval {k : Key} : ∀ {us : List (Key × V)} {kvs : KD}, ImKD K W H us kvs → valD kvs k = none → valV us k = none
  | [], _, h, e => rfl
  | u :: us, _, h, e => by
    rcases h.inv with ⟨e', _⟩ | ⟨k', v, d', us', kvs', e', rfl, q, h'⟩
    · cases e'
    · cases e'
      by_cases hk : k' = k
      · subst hk
        simp [valD] at e
      · have e2 : valD kvs' k = none := by simpa [valD, hk] using e
        simpa [valV, hk] using ImKD.noval h' e2
theorem ImKD.mapK {k : Key} {v : V} {d : PyData} (q : Im K W H v d) : ∀ {us : List (Key × V)} {kvs : KD}, ImKD K W H us kvs → ImKD K W H (us.map fun kv => if kv.1 = k then (kv.1, v) else kv) (kvs.map fun kv => if kv.1 = k then (kv.1, d) else kv)
  | [], _, h => by rcases h.inv with ⟨_, rfl⟩ | ⟨_, _, _, _, _, e', _⟩; exact .nil; cases e'
  | u :: us, _, h => by
    rcases h.inv with ⟨e', _⟩ | ⟨k', v', d', us', kvs', e', rfl, q', h'⟩
    · cases e'
    · cases e'
      have ih := ImKD.mapK (k := k) q h'
      rw [List.map_cons, List.map_cons]
      dsimp only
      split
      · exact .cons q ih
      · exact .cons q' ih
theorem ImKD.put {k : Key} {v : V} {d : PyData} (q : Im K W H v d) {us : List (Key × V)} {kvs : KD} (h : ImKD K W H us kvs) : ImKD K W H (putK us k v) (putD kvs k d) := by
  unfold putK putD
  rw [h.any]
  split
  · exact h.mapK q
  · exact h.app (.cons q .nil)
theorem ImKD.len {us : List (Key × V)} {kvs : KD} (h : ImKD K W H us kvs) : us.length = kvs.length := by
  have := congrArg List.length h.1
  simpa using this
theorem ImKD.tr {W' : Addr → Prop} {H' : Hp} (s : Stay W W' H H') {us : List (Key × V)} {kvs : KD} (h : ImKD K W H us kvs) : ImKD K W' H' us kvs := ⟨h.1, ImAll.tr s h.2⟩
end
theorem Rp.hd {Z : Zs} (ok : Ok K Z) {v : V} {h : Nat} {kvs : KD} (r : Rp K Z v (.o h)) (e : Z.st[h]? = some (.dK kvs)) : ∃ a us, v = .ref a ∧ Z.φ[h]? = some a ∧ Z.H a = some (.dK us) ∧ ImKD K Z.W Z.H us kvs := by
  obtain ⟨a, c, ev, e1, e2, e3⟩ := r
  rw [e] at e2
  cases e2
  obtain ⟨us, q, q1, q2⟩ := ok.ct h a _ e1 e
  exact ⟨a, us, ev, e1, q, q1, q2⟩
def dkAt (st : Sto) : Sl → Option KD
  | .o h => match st[h]? with
    | some (.dK kvs) => some kvs
    | _ => none
  | _ => none
def keyS (st : Sto) (s : Sl) : Option Key := (vw st s).bind keyOf
def oDGet (s t : Sl) (st : Sto) (Q : DK) : Prop := match dkAt st s, keyS st t with
  | some kvs, some k => ∃ d, valD kvs k = some d ∧ Q (.d d) st
  | _, _ => False
def wDPut (te to ti : DE) : DS := fun D sl st => te D.ex sl st fun v st => to D.ex sl st fun o st => ti D.ex sl st fun i st => match o, v, keyS st i with
  | .o h, .d y, some k => match st[h]? with
    | some (.dK kvs) => kvs.length < sizeLine ∧ D.nx sl (st.set h (.dK (putD kvs k y)))
    | _ => False
  | _, _, _ => False
abbrev DP := DX → Sls → Sto → (KD → Sto → Prop) → Prop
def wPNil : DP := fun _ _ st Q => Q [] st
def wPCons (tk tv : DE) (r : DP) : DP := fun Ed sl st Q => tk Ed sl st fun k st => tv Ed sl st fun v st => match k, v with
  | .d kd, .d d => match keyOf kd with
    | some key => r Ed sl st fun kvs st => Q ((key, d) :: kvs) st
    | none => False
  | _, _ => False
def upP (K : Frag) (E : WXs) (τ : DP) : L2.St → Hp → (List (V × V) → Hp → Prop) → Prop := fun σ H Q => ∃ (Z : Zs) (sl : Sls) (Qd : KD → Sto → Prop) (Ed : DX), Z.H = H ∧ Ok K Z ∧ SlOk K Z σ sl ∧ τ Ed sl Z.st Qd ∧ (∀ (Z' : Zs) (us : List (Key × V)) (kvs : KD), Le Z Z' → Ok K Z' → ImKD K Z'.W Z'.H us kvs → Qd kvs Z'.st → Q (us.map fun kv => (kV kv.1, kv.2)) Z'.H) ∧ KXOk K Z Ed E
structure DPs (X : Cx) (E : WXs) (pos : Pos) (keys : List (Option Expr)) (values : List Expr) (τ : DP) : Prop where
  run : ∃ trs, PPs X pos keys values trs ∧ ∀ σ H Q, upP X.K E τ σ H Q → tPairs trs σ H Q
def wDisp (r : DP) : DE := fun Ed sl st Q => r Ed sl (st ++ [.dK []]) fun kvs st2 => st2[st.length]? = some (.dK []) ∧ kvs.length ≤ 15 ∧ Q (.o st.length) (st2.set st.length (.dK (mergeD [] kvs)))
def wDNew : DE := fun Ed sl st Q => Q (.o st.length) (st ++ [.dK []])
def wDNil : DE := fun Ed sl st Q => Q (.d (.dict [])) st
end
end Pz
set_option maxRecDepth 100000
namespace Pz
open PySem PySem.Spec PyProof.Rows L2 TL
variable [PenC]
theorem wDPut_ap {te to ti : DE} {nx bk ct : Sls → Sto → Prop} {rt : DK} {ex : DX} {sl : Sls} {st : Sto} : wDPut te to ti ⟨nx, rt, ex, bk, ct⟩ sl st = (te ex sl st fun v st => to ex sl st fun o st => ti ex sl st fun i st => match o, v, keyS st i with
  | .o h, .d y, some k => match st[h]? with
    | some (.dK kvs) => kvs.length < sizeLine ∧ nx sl (st.set h (.dK (putD kvs k y)))
    | _ => False
  | _, _, _ => False) := rfl
theorem wPNil_ap {Ed : DX} {sl : Sls} {st : Sto} {Q : KD → Sto → Prop} : wPNil Ed sl st Q = Q [] st := rfl
theorem wPCons_ap {tk tv : DE} {r : DP} {Ed : DX} {sl : Sls} {st : Sto} {Q : KD → Sto → Prop} : wPCons tk tv r Ed sl st Q = (tk Ed sl st fun k st => tv Ed sl st fun v st => match k, v with
  | .d kd, .d d => match keyOf kd with
    | some key => r Ed sl st fun kvs st => Q ((key, d) :: kvs) st
    | none => False
  | _, _ => False) := rfl
theorem wDisp_ap {r : DP} {Ed : DX} {sl : Sls} {st : Sto} {Q : DK} : wDisp r Ed sl st Q = (r Ed sl (st ++ [.dK []]) fun kvs st2 => st2[st.length]? = some (.dK []) ∧ kvs.length ≤ 15 ∧ Q (.o st.length) (st2.set st.length (.dK (mergeD [] kvs)))) := rfl
theorem wDNew_ap {Ed : DX} {sl : Sls} {st : Sto} {Q : DK} : wDNew Ed sl st Q = Q (.o st.length) (st ++ [.dK []]) := rfl
theorem wDNil_ap {Ed : DX} {sl : Sls} {st : Sto} {Q : DK} : wDNil Ed sl st Q = Q (.d (.dict [])) st := rfl
theorem keyOf_str {z : Str} : keyOf (.str z) = some (.inr z) := rfl
theorem keyOf_int {i : Int} : keyOf (.int i) = some (.inl i) := rfl
theorem keyS_str {st : Sto} {z : Str} : keyS st (.d (.str z)) = some (.inr z) := rfl
theorem keyS_int {st : Sto} {i : Int} : keyS st (.d (.int i)) = some (.inl i) := rfl
theorem dkAt_o {st : Sto} {h : Nat} : dkAt st (.o h) = match st[h]? with
    | some (.dK kvs) => some kvs
    | _ => none := rfl
section
variable {a b c d : PyData}
theorem valE_cells : valD [(.inr "cells", a), (.inr "at", b), (.inr "left", c)] (.inr "cells") = some a := by with_unfolding_all rfl
theorem valE_at : valD [(.inr "cells", a), (.inr "at", b), (.inr "left", c)] (.inr "at") = some b := by with_unfolding_all rfl
theorem valE_left : valD [(.inr "cells", a), (.inr "at", b), (.inr "left", c)] (.inr "left") = some c := by with_unfolding_all rfl
theorem putE_at : putD [(.inr "cells", a), (.inr "at", b), (.inr "left", c)] (.inr "at") d = [(.inr "cells", a), (.inr "at", d), (.inr "left", c)] := by with_unfolding_all rfl
theorem putE_left : putD [(.inr "cells", a), (.inr "at", b), (.inr "left", c)] (.inr "left") d = [(.inr "cells", a), (.inr "at", b), (.inr "left", d)] := by with_unfolding_all rfl
theorem mergeE : mergeD [] [(.inr "cells", a), (.inr "at", b), (.inr "left", c)] = [(.inr "cells", a), (.inr "at", b), (.inr "left", c)] := by with_unfolding_all rfl
end
theorem ret1_dE {C : KD} {st : Sto} {Q : DK} : Ret 0 (.o 0) (.dK C :: st) Q = Q (.o 0) [.dK C] := by simp [Ret, Ct.live, Cl]
theorem cl_dk {n : Nat} {kvs : KD} : Cl n (.dK kvs) = True := rfl
theorem u1 {k : Nat} {A : Around} (hr : Room k A) : A.units + 1 < cLine := by have := hr.units; omega
theorem okT_int : okTy "int" = true := by decide +kernel
theorem is_int_none : isTyB "int" (tyName (.none)) = false := by with_unfolding_all rfl
theorem is_int_bool {b : Bool} : isTyB "int" (tyName (.bool b)) = true := by with_unfolding_all rfl
theorem is_int_int {i : Int} : isTyB "int" (tyName (.int i)) = true := by with_unfolding_all rfl
theorem is_int_str {z : Str} : isTyB "int" (tyName (.str z)) = false := by with_unfolding_all rfl
theorem is_int_list {ds : List PyData} : isTyB "int" (tyName (.list ds)) = false := by with_unfolding_all rfl
theorem is_int_tuple {ds : List PyData} : isTyB "int" (tyName (.tuple ds)) = false := by with_unfolding_all rfl
theorem is_int_dict {kvs : List (PyData × PyData)} : isTyB "int" (tyName (.dict kvs)) = false := by with_unfolding_all rfl
theorem okT_bool : okTy "bool" = true := by decide +kernel
theorem is_bool_none : isTyB "bool" (tyName (.none)) = false := by with_unfolding_all rfl
theorem is_bool_bool {b : Bool} : isTyB "bool" (tyName (.bool b)) = true := by with_unfolding_all rfl
theorem is_bool_int {i : Int} : isTyB "bool" (tyName (.int i)) = false := by with_unfolding_all rfl
theorem is_bool_str {z : Str} : isTyB "bool" (tyName (.str z)) = false := by with_unfolding_all rfl
theorem is_bool_list {ds : List PyData} : isTyB "bool" (tyName (.list ds)) = false := by with_unfolding_all rfl
theorem is_bool_tuple {ds : List PyData} : isTyB "bool" (tyName (.tuple ds)) = false := by with_unfolding_all rfl
theorem is_bool_dict {kvs : List (PyData × PyData)} : isTyB "bool" (tyName (.dict kvs)) = false := by with_unfolding_all rfl
theorem okT_str : okTy "str" = true := by decide +kernel
theorem is_str_none : isTyB "str" (tyName (.none)) = false := by with_unfolding_all rfl
theorem is_str_bool {b : Bool} : isTyB "str" (tyName (.bool b)) = false := by with_unfolding_all rfl
theorem is_str_int {i : Int} : isTyB "str" (tyName (.int i)) = false := by with_unfolding_all rfl
theorem is_str_str {z : Str} : isTyB "str" (tyName (.str z)) = true := by with_unfolding_all rfl
theorem is_str_list {ds : List PyData} : isTyB "str" (tyName (.list ds)) = false := by with_unfolding_all rfl
theorem is_str_tuple {ds : List PyData} : isTyB "str" (tyName (.tuple ds)) = false := by with_unfolding_all rfl
theorem is_str_dict {kvs : List (PyData × PyData)} : isTyB "str" (tyName (.dict kvs)) = false := by with_unfolding_all rfl
theorem okT_tuple : okTy "tuple" = true := by decide +kernel
theorem is_tuple_none : isTyB "tuple" (tyName (.none)) = false := by with_unfolding_all rfl
theorem is_tuple_bool {b : Bool} : isTyB "tuple" (tyName (.bool b)) = false := by with_unfolding_all rfl
theorem is_tuple_int {i : Int} : isTyB "tuple" (tyName (.int i)) = false := by with_unfolding_all rfl
theorem is_tuple_str {z : Str} : isTyB "tuple" (tyName (.str z)) = false := by with_unfolding_all rfl
theorem is_tuple_list {ds : List PyData} : isTyB "tuple" (tyName (.list ds)) = false := by with_unfolding_all rfl
theorem is_tuple_tuple {ds : List PyData} : isTyB "tuple" (tyName (.tuple ds)) = true := by with_unfolding_all rfl
theorem is_tuple_dict {kvs : List (PyData × PyData)} : isTyB "tuple" (tyName (.dict kvs)) = false := by with_unfolding_all rfl
theorem okT_list : okTy "list" = true := by decide +kernel
theorem is_list_none : isTyB "list" (tyName (.none)) = false := by with_unfolding_all rfl
theorem is_list_bool {b : Bool} : isTyB "list" (tyName (.bool b)) = false := by with_unfolding_all rfl
theorem is_list_int {i : Int} : isTyB "list" (tyName (.int i)) = false := by with_unfolding_all rfl
theorem is_list_str {z : Str} : isTyB "list" (tyName (.str z)) = false := by with_unfolding_all rfl
theorem is_list_list {ds : List PyData} : isTyB "list" (tyName (.list ds)) = true := by with_unfolding_all rfl
theorem is_list_tuple {ds : List PyData} : isTyB "list" (tyName (.tuple ds)) = false := by with_unfolding_all rfl
theorem is_list_dict {kvs : List (PyData × PyData)} : isTyB "list" (tyName (.dict kvs)) = false := by with_unfolding_all rfl
theorem is_dict_none : isTyB "dict" (tyName (.none)) = false := by with_unfolding_all rfl
theorem is_dict_bool {b : Bool} : isTyB "dict" (tyName (.bool b)) = false := by with_unfolding_all rfl
theorem is_dict_int {i : Int} : isTyB "dict" (tyName (.int i)) = false := by with_unfolding_all rfl
theorem is_dict_str {z : Str} : isTyB "dict" (tyName (.str z)) = false := by with_unfolding_all rfl
theorem is_dict_list {ds : List PyData} : isTyB "dict" (tyName (.list ds)) = false := by with_unfolding_all rfl
theorem is_dict_tuple {ds : List PyData} : isTyB "dict" (tyName (.tuple ds)) = false := by with_unfolding_all rfl
theorem is_dict_dict {kvs : List (PyData × PyData)} : isTyB "dict" (tyName (.dict kvs)) = true := by with_unfolding_all rfl
end Pz
set_option maxRecDepth 100000
namespace Pz
open PySem PySem.Spec PyProof.Rows L2 TL
variable [PenC]
section
variable {K : Frag}
def flatD : PyData → Bool
  | .none => true
  | .bool _ => true
  | .int _ => true
  | .str _ => true
  | _ => false
def oInX (neg : Bool) (x y : Sl) (st : Sto) (Q : DK) : Prop := match vw st x, vw st y with
  | some d, some (.list ds) => SeqAt.shaped d = true ∧ SeqAt.shaped (.list ds) = true ∧ Q (.d (.bool (if neg then !ds.any fun z => PyData.eqv z d else ds.any fun z => PyData.eqv z d))) st
  | some d, some (.tuple ds) => flatD d = true ∧ ds.all flatD = true ∧ Q (.d (.bool (if neg then !ds.any fun z => PyData.eqv z d else ds.any fun z => PyData.eqv z d))) st
  | some (.str z), some (.str y) => ∃ c, z = ⟨#[c]⟩ ∧ Q (.d (.bool (if neg then !decide (c ∈ tl y) else decide (c ∈ tl y)))) st
  | _, _ => False
def rInX (K : Frag) : R2 := fun x y H Q => rInD K x y H Q ∨ rIn K false x y H Q ∨ ∃ (c : Nat) (z : Str), x = .str ⟨#[c]⟩ ∧ y = .str z ∧ Q (.bl (decide (c ∈ z.cps.toList))) H
def rNinX (K : Frag) : R2 := fun x y H Q => rNotInD K x y H Q ∨ rIn K true x y H Q ∨ ∃ (c : Nat) (z : Str), x = .str ⟨#[c]⟩ ∧ y = .str z ∧ Q (.bl (!decide (c ∈ z.cps.toList))) H
def oIsB (x y : Sl) (st : Sto) (Q : DK) : Prop := match vw st x, vw st y with
  | some (.bool a), some (.bool b) => Q (.d (.bool (decide (a = b)))) st
  | _, _ => False
def oNotB (x y : Sl) (st : Sto) (Q : DK) : Prop := match vw st x, vw st y with
  | some (.bool a), some (.bool b) => Q (.d (.bool (!decide (a = b)))) st
  | _, _ => False
def intFrom (d : PyData) (m : Int) : Bool := match d with
  | .int i => decide (m ≤ i)
  | _ => false
def intBetw (d : PyData) (m g : Int) : Bool := match d with
  | .int i => decide (m ≤ i) && decide (i ≤ g)
  | _ => false
def isWord (d : PyData) : Bool := match d with
  | .str z => decide (Str.ofString "expand" = z) || decide (Str.ofString "collapse" = z)
  | _ => false
def isOp (d : PyData) : Bool := match d with
  | .tuple [w, s] => isWord w && intBetw s 1 1000000000
  | _ => false
end
end Pz
set_option maxRecDepth 100000
namespace Pz
open PySem PySem.Spec PyProof.Rows L2 TL
variable [PenC]
section
variable {prog : Program} {w : World} {A : Around} {E : Value → Shared → Prop} {s : Shared}
set_option maxHeartbeats 1000000 in
theorem meets_enum1 {v : Value} {o : Obj} {G : Heap → Prop} (B : Begins v o G) : Meets (Builtin.«enumerate.__new__» ⟨[.type "enumerate", v], []⟩) (fun _ R s => G s.heap ∧ R (.ok (.ret (.ref (s.heap.push o).objs.size))) { s with heap := (s.heap.push o).push { cls := .type "enumerate", data := .fields #[.none, .bool false, .ref s.heap.objs.size, rawInt 0, .none, .none] } }) := .of_wp fun prog w A R s hs => by
    obtain ⟨hp, gg, dd, kk, oo⟩ := s
    obtain ⟨st, hs⟩ := hs
    have sb := sub_enumerate
    have qi : ∀ {A' : Around} {E Q : Value → Shared → Prop}, Q (.ref hp.objs.size) ⟨hp.push o, gg, dd, kk, oo⟩ → wpAny (model prog w) A' (pyIter v) Q E ⟨hp, gg, dd, kk, oo⟩ := fun q => B.iter prog w _ _ ⟨hp, gg, dd, kk, oo⟩ _ st q
    wp_walk using qi
    refine wpAny_stack_any fun st2 => wpAny_pure ?_
    split
    · rename_i c _ _ _ _ _
      cases (c == Value.type "enumerate") <;> (wp_walk using qi; exact ⟨_, rfl, hs⟩)
    · wp_walk using qi; exact ⟨_, rfl, hs⟩
theorem enum1_begins {v : Value} {o : Obj} {G : Heap → Prop} {Q : Value → Shared → Prop} (B : Begins v o G) (st : G s.heap)
    (q : ∀ h', IsEnum h' (s.heap.objs.size + 1) s.heap.objs.size 0 .none → h'.get? s.heap.objs.size = some o → (∀ b ob, s.heap.get? b = some ob → h'.get? b = some ob) → Q (.ref (s.heap.objs.size + 1)) { s with heap := h' }) : wpAny (model prog w) A (call (.type "enumerate") [v]) Q E s := by
  refine callType_new F.called_enumerate (by decide) (F.typeCall_enumerate_1 _) (F.newCall_enumerate_1 _) (fun obj => F.args_object_init_2 obj _) F.entry_enumerate_new (meets_enum1 B) ⟨st, ?_⟩
  have z : (s.heap.push o).objs.size = s.heap.objs.size + 1 := Heap.size_push ..
  show _ ∧ _
  rw [z]
  have g := Heap.get?_push_size (s.heap.push o) (o := { cls := .type "enumerate", data := .fields #[.none, .bool false, .ref s.heap.objs.size, rawInt 0, .none, .none] }) rfl
  rw [z] at g
  exact ⟨⟨_, g, rfl⟩, q _ g (Heap.get?_push_of_some _ (Heap.get?_push_size _ B.free)) fun b ob e => Heap.get?_push_of_some _ (Heap.get?_push_of_some _ e)⟩
theorem wpAny_pyNext_enum_endT {e it a : Addr} {i : Nat} {items : Array Value} {old : Value} {Q : Option Value → Shared → Prop} (hh : A.handled = none) (he : IsEnum s.heap e it i old) (hit : s.heap.IsTupleIter it a i) (ht : s.heap.IsTuple a items) (hx : items[i]? = none)
    (q : ∀ h', Heap.ExtBut it s.heap h' → Q none { s with heap := h' }) : wpAny (model prog w) A (pyNext (.ref e)) Q E s := by
  have ty : s.TypeIs (.ref e) "enumerate" := ⟨_, he, rfl⟩
  unfold pyNext
  refine wpAny_bind (wpAny_attempt (wpAny_callSpecial?_slot (name := Str.ofString "__next__") ty F.slot_enumerate_next (wpAny_call_entry F.slot_enumerate_next ty F.entry_enumerate_next ?_ (F.args_enumerate_next_1 _))))
  change wpAny _ _ (field (.ref e) 2 >>= _) _ _ _
  refine wpAny_bind (wpAny_field he rfl (x := .ref it) rfl ?_)
  refine wpAny_bind (wpAny_nextOf_tuple_end hh hit ht hx fun h' x kp ex => ?_)
  obtain ⟨o, e1, e2⟩ := ex
  exact wpAny_bind (wpAny_isInstance (T := "StopIteration") (b := true) ⟨o, e1, e2⟩ isSubtype_stop (wpAny_pure (q _ kp)))
end
def IteT (K : Frag) (a : Addr) : It :=
  ⟨fun i H => ∃ (xs : List V) (x : V), SqT K H a xs ∧ xs[i]? = some x,
   fun i H v H' => ∃ T x, v = .ref T ∧ H T = none ∧ H' = upd H T (.tup [.int (i : Nat), x]) ∧ ∀ xs, SqT K H a xs → xs[i]? = some x,
   fun i H => ∃ xs : List V, SqT K H a xs ∧ xs.length ≤ i⟩
theorem turn_enumT {P : Program} {w : World} {K : Frag} {elts : List Expr} {kk : Nat} {tpos : Pos} (a e it : Addr) :
    Turn P w K (.Tuple elts kk tpos) (IteT K a) [e, it] e (fun i h => (∃ old, IsEnum h e it ((i : Nat) : Int) old) ∧ h.IsTupleIter it a i ∧ e ≠ it ∧ e ≠ a ∧ a ≠ it) where
  mem := by simp
  obj := fun i h st b hb => by
    obtain ⟨⟨old, he⟩, ⟨o, ho, _, hd⟩, _⟩ := st
    simp only [List.mem_cons, List.not_mem_nil, or_false] at hb
    rcases hb with rfl | rfl
    · exact ⟨_, he, fun v q => nomatch q⟩
    · exact ⟨o, ho, fun v q => by rw [hd] at q; cases q⟩
  keep := fun i h h' st k => by
    obtain ⟨⟨old, he⟩, hi, hne⟩ := st
    exact ⟨⟨old, k e (by simp) _ he⟩, hi.at fun o q => k it (by simp) o q, hne⟩
  item := by
    intro X hP hw hK hc i pins s σ H E I hf st hg
    subst hP hw hK
    obtain ⟨⟨old, he⟩, hit, hne, hea, hai⟩ := st
    obtain ⟨xs, x, hq, hx⟩ := hg
    obtain ⟨its, rv, p, hz⟩ := I.tuple hq
    obtain ⟨u, hu, ru⟩ := rv.get hx
    have hel := Heap.lt_size he
    have hil : it < s.heap.objs.size := by obtain ⟨_, q, _⟩ := hit; exact Heap.lt_size q
    have hlen : i < its.toArray.size := by have := (List.getElem?_eq_some_iff.mp hu).1; simpa using this
    have D := Draws.tuple (prog := X.prog) (w := X.w) (A := X.A.in1) (I.ok.hd hc) it a hai its.toArray
    refine wpAny_pyNext_enum_itemD D he ⟨hit, p⟩ hlen hne (by simp [hne, hea]) fun y h' tk hy ho hit' hT hsz hk => ?_
    obtain rfl : y = u := by
      have : its.toArray[i]? = some u := by simpa using hu
      exact Option.some.inj (hy.symm.trans this)
    refine ⟨_, rfl, wpAny_letOwnedTupleGo_enum (s := { s with heap := h', toks := tk + 1 }) ho fun h2 he' sb => ?_⟩
    have hT2 : h2.get? s.heap.objs.size = some { cls := .type "tuple", data := .seq #[.int i tk, y] } := (sb.2 _ (Nat.ne_of_gt hel)).trans hT
    have ok2 : ObjOk X.prog X.w (upd H s.heap.objs.size (.tup [.int (i : Nat), x])) h2 s.heap.objs.size (.tup [.int (i : Nat), x]) := ⟨by show 2 ≤ sizeLine; decide, [.int i tk, y], .cons ⟨_, rfl⟩ (.cons ru .nil), ⟨_, hT2, rfl, _, rfl⟩⟩
    have kp : ∀ b ob, b ∉ [e, it] → s.heap.get? b = some ob → h2.get? b = some ob := fun b ob hb q => by
      simp only [List.mem_cons, List.not_mem_nil, or_false, not_or] at hb
      exact (sb.2 b hb.1).trans (hk b ob hb.1 hb.2 q)
    have I1 : Inv X pins σ (upd H s.heap.objs.size (.tup [.int (i : Nat), x])) { s with heap := h2, toks := tk + 1 } := I.turnedNew (ch := [e, it]) kp hf (Nat.le_refl _) ok2
    have e1 : ((i + 1 : Nat) : Int) = (i : Int) + 1 := by omega
    refine ⟨.ref s.heap.objs.size, _, I1, rfl, ⟨_, x, rfl, I.hok.fresh (Nat.le_refl _), rfl, fun ys hy => by rw [I.tuple_inj hy hq]; exact hx⟩, ⟨⟨y, by rw [e1]; exact he'⟩, hit'.1.at fun o q => (sb.2 it (Ne.symm hne)).trans q, hne, hea, hai⟩, fun b hb => ?_⟩
    have hb' : b < s.heap.objs.size := by
      simp only [List.mem_cons, List.not_mem_nil, or_false] at hb
      rcases hb with rfl | rfl
      · exact hel
      · exact hil
    rw [upd_ne (Nat.ne_of_lt hb')]
    exact (hf b hb).1
  done := by
    intro X hP hw hK hc i pins s σ H E I hf st hg
    subst hP hw hK
    obtain ⟨⟨old, he⟩, hit, hne, hea, hai⟩ := st
    obtain ⟨xs, hq, hx⟩ := hg
    obtain ⟨its, rv, p, hz⟩ := I.tuple hq
    obtain ⟨f0, f1, f2, f3, f4, f5⟩ := hf it (by simp)
    have hl := rv.length
    exact wpAny_pyNext_enum_endT (I.ok.hd hc) he hit p (by simp; omega) fun h' eb => ⟨rfl, I.turned (t' := s.toks) (fun b o hb q => eb b o hb q) f0 f1 f3 f4 f5⟩
  self := fun A i s Q E st h => by obtain ⟨⟨_, he⟩, _⟩ := st; exact wpAny_pyIter_enum he h
def iEnumA (K : Frag) (ta : TA) : TI := fun σ H R => ta σ H fun vs H1 => ∃ a xs, vs = [.ref a] ∧ ((SqL K H1 a xs ∧ R (Ite K a) H1) ∨ (SqT K H1 a xs ∧ R (IteT K a) H1))
theorem itd_enumT {K : Frag} {Z1 : Zs} {a : Addr} {xs : List V} {ds : List PyData} (h : ImT K Z1.W Z1.H a xs) (r : Z1.ImAll K xs ds) : ItD K (IteT K a) Z1 (enumD 0 ds) where
  go := fun Z k ok i hi => by
    rw [enum_len] at hi
    exact ⟨xs, xs[i]'(by rw [r.length]; exact hi), (h.tr k).sq, List.getElem?_eq_getElem _⟩
  stop := fun Z k ok => ⟨xs, (h.tr k).sq, by rw [r.length, enum_len]; exact Nat.le_refl _⟩
  yld := fun Z k ok i v H' d e y => by
    obtain ⟨T, x, rfl, nT, rfl, y⟩ := y
    obtain ⟨z, e', rfl⟩ := enum_get e
    obtain ⟨v', e2, r'⟩ := r.get' e'
    obtain rfl : v' = x := by injection e2.symm.trans (y xs (h.tr k).sq)
    have rr : Z.ImAll K [.int ((i : Nat) : Int), v'] [.int ((0 + i : Nat) : Int), z] := by
      rw [Nat.zero_add]
      exact .cons (.int _) (.cons (Im.tr k r') .nil)
    exact ⟨Z.new T (.tup [.int (i : Nat), v']), ok.leNew nT, ok.new nT, rfl, rfl, ok.rpT nT rr⟩
def wEnumX (te : DA) : DI := fun Ed sl st Q => te Ed sl st fun ss st => match ss with
  | [.d (.tuple ds)] => Q (enumD 0 ds) st
  | [.d (.list ds)] => Q (enumD 0 ds) st
  | _ => False
section
variable {X : Cx} {E : WXs} {Z0 : Zs} {e : Expr} {t : DA} {elts : List Expr} {kk : Nat} {pos p tpos : Pos}
theorem wEnumX_ap {te : DA} {Ed : DX} {sl : Sls} {st : Sto} {Q : List PyData → Sto → Prop} : wEnumX te Ed sl st Q = (te Ed sl st fun ss st => match ss with
  | [.d (.tuple ds)] => Q (enumD 0 ds) st
  | [.d (.list ds)] => Q (enumD 0 ds) st
  | _ => False) := rfl
end
def wRevX (te : DE) : DE := fun Ed sl st Q => te Ed sl st fun s st => match vw st s with
  | some (.list ds) => Q (.d (.list ds.reverse)) st
  | some (.tuple ds) => Q (.d (.tuple ds.reverse)) st
  | _ => False
end Pz
set_option maxRecDepth 100000
namespace Pz
open PySem PySem.Spec PyProof.Rows L2 TL
variable [PenC]
structure FAtK (K : Frag) (mg : Str → Option Value) (x : Str) (st : Stmt) (kws : List (Str × V)) (f : Addr) (fd : FuncData) : Prop where
  F : Fun K x x st f fd
  g : mg x = some (.ref f)
  D : FunD K x x (defArgs st) (defBody st) (defScope st) [] kws f fd
structure KwE (K : Frag) (fd : FuncData) (ps : List Str) (n : Nat) (ks : List Str) (gS : List Sl → List Sl → List Sl) : Prop where
  ex : ∃ (g : List Value → List Value → List Value) (gV : List V → List V → List V),
    (∀ (s : Shared) (us ws : List Value), K.In s.heap → us.length = n → ws.length = ks.length → BindsTo s fd ⟨us, ks.zip ws⟩ (ps.zip (g us ws))) ∧
    (∀ {vs : List V} {us : List Value} {zs : List V} {ws : List Value}, vs.length = n → zs.length = ks.length → Vals vs us → Vals zs ws → Vals (gV vs zs) (g us ws)) ∧
    (∀ {Z : Zs} {vs zs : List V} {ss us : List Sl}, ss.length = n → us.length = ks.length → RpAll K Z vs ss → RpAll K Z zs us → RpAll K Z (gV vs zs) (gS ss us))
section
variable {K : Frag} {x : Str} {st : Stmt} {kws : List (Str × V)} {f : Addr} {fd : FuncData} {ps : List Str} {mg : Str → Option Value}
end
section
variable {X : Cx} {E : WXs} {k n m : Nat} {fa : Addr} {fd : FuncData} {ps ks : List Str} {f : FD} {x : Str} {p pos : Pos} {e : Expr} {es : List Expr} {t tk : DA} {kws : List Keyword} {gS : List Sl → List Sl → List Sl}
def wCallE (n m : Nat) (f : FD) (g : List Sl → List Sl → List Sl) (t tk : DA) : DE := fun Ed sl st Q => t Ed sl st fun ss st => tk Ed sl st fun zs st => ss.length = n ∧ zs.length = m ∧ f (g ss zs) fun d => Q (.d d) st
theorem wCallE_ap {g : List Sl → List Sl → List Sl} {Ed : DX} {sl : Sls} {st : Sto} {Q : DK} : wCallE n m f g t tk Ed sl st Q = (t Ed sl st fun ss st => tk Ed sl st fun zs st => ss.length = n ∧ zs.length = m ∧ f (g ss zs) fun d => Q (.d d) st) := rfl
end
end Pz
set_option maxRecDepth 100000
namespace Pz
open PySem PySem.Spec PyProof.Rows L2 TL
variable [PenC]
section
variable {X : Cx} {E : WXs} {Z0 : Zs} {a b c e : Expr} {es rest : List Expr} {ta tb tc te : DE} {t : DA} {pos p p2 : Pos} {x : Str} {K : Frag} {lo hi : Option Expr} {tlo thi : DO}
def wOrX (ta tb : DE) : DE := fun Ed sl st Q => ta Ed sl st fun s st => match truD st s with
  | some b => if b = true then Q s st else tb Ed sl st Q
  | none => False
def wAndX (ta tb : DE) : DE := fun Ed sl st Q => ta Ed sl st fun s st => match truD st s with
  | some b => if b = true then tb Ed sl st Q else Q s st
  | none => False
def oSlO (s : Sl) (lo hi : Option Int) (st : Sto) (Q : DK) : Prop := match vw st s with
    | some (.list ds) => Q (.o st.length) (st ++ [.lst (cutD ds lo hi)])
    | _ => False
def wSlO (te : DE) (tl th : DO) : DE := fun Ed sl st Q => te Ed sl st fun s st => tl Ed sl st fun lo st => th Ed sl st fun hi st => oSlO s lo hi st Q
theorem wSlO_ap {tl th : DO} {Ed : DX} {sl : Sls} {st : Sto} {Q : DK} : wSlO te tl th Ed sl st Q = (te Ed sl st fun s st => tl Ed sl st fun lo st => th Ed sl st fun hi st => oSlO s lo hi st Q) := rfl
theorem cut_mem {α : Type} {xs : List α} {lo hi : Option Int} {d : α} (h : d ∈ cutD xs lo hi) : d ∈ xs := List.mem_of_mem_drop (List.mem_of_mem_take h)
theorem Ints.cut {P : Int → Prop} {ds : List PyData} {lo hi : Option Int} (h : Ints P ds) : Ints P (cutD ds lo hi) := fun d m => h d (cut_mem m)
theorem sIx_pos {n d : Nat} {j : Int} (h : 0 ≤ j) : HT.sIx n d (some j) = min j.toNat n := by
  unfold HT.sIx
  dsimp only
  rw [if_neg (by omega)]
theorem cut_take {α : Type} {xs : List α} {j : Int} (h : 0 ≤ j) : cutD xs none (some j) = xs.take j.toNat := by
  unfold cutD
  rw [sIx_pos h, HT.sIx_none, List.drop_zero, Nat.sub_zero]
  rcases Nat.le_total xs.length j.toNat with c | c
  · rw [List.take_of_length_le (by omega), List.take_of_length_le c]
  · congr 1; omega
theorem cut_hi {α : Type} {xs : List α} {j : Int} (h : 0 ≤ j) : (cutD xs none (some j)).length = min xs.length j.toNat := by
  rw [cut_take h, List.length_take]; omega
end
end Pz
set_option maxRecDepth 100000
namespace Pz
open PySem PySem.Spec PyProof.Rows L2 TL
variable [PenC]
def IteS (x : Str) : It :=
  ⟨fun i _ => i < x.cps.size,
   fun i H v H' => ∃ T c, v = .ref T ∧ H T = none ∧ H' = upd H T (.tup [.int (i : Nat), .str ⟨#[c]⟩]) ∧ x.cps[i]? = some c,
   fun i _ => x.cps.size ≤ i⟩
theorem turn_enumS {P : Program} {w : World} {K : Frag} {elts : List Expr} {kk : Nat} {tpos : Pos} (x : Str) (t : Tok) (e it : Addr) :
    Turn P w K (.Tuple elts kk tpos) (IteS x) [e, it] e (fun i h => (∃ old, IsEnum h e it ((i : Nat) : Int) old) ∧ h.IsStrIter it (strIterType x) x t i ∧ e ≠ it ∧ i ≤ x.cps.size) where
  mem := by simp
  obj := fun i h st b hb => by
    obtain ⟨⟨old, he⟩, ⟨o, ho, _, hd⟩, _⟩ := st
    simp only [List.mem_cons, List.not_mem_nil, or_false] at hb
    rcases hb with rfl | rfl
    · exact ⟨_, he, fun v q => nomatch q⟩
    · exact ⟨o, ho, fun v q => by rw [hd] at q; cases q⟩
  keep := fun i h h' st k => by
    obtain ⟨⟨old, he⟩, ⟨o, ho, r⟩, hne⟩ := st
    exact ⟨⟨old, k e (by simp) _ he⟩, ⟨o, k it (by simp) o ho, r⟩, hne⟩
  item := by
    intro X hP hw hK hc i pins s σ H E I hf st hg
    subst hP hw hK
    obtain ⟨⟨old, he⟩, hit, hne, hi⟩ := st
    have hel := Heap.lt_size he
    have hil : it < s.heap.objs.size := by obtain ⟨_, q, _⟩ := hit; exact Heap.lt_size q
    have D := Draws.text (prog := X.prog) (w := X.w) (A := X.A.in1) (I.ok.hd hc) it x t
    refine wpAny_pyNext_enum_itemD D he hit hg hne (by simp [hne]) fun y h' tk hy ho hit' hT hsz hk => ?_
    obtain ⟨c, u, hcx, rfl⟩ := hy
    refine ⟨_, rfl, wpAny_letOwnedTupleGo_enum (s := { s with heap := h', toks := tk + 1 }) ho fun h2 he' sb => ?_⟩
    have hT2 : h2.get? s.heap.objs.size = some { cls := .type "tuple", data := .seq #[.int i tk, .str ⟨#[c]⟩ u] } := (sb.2 _ (Nat.ne_of_gt hel)).trans hT
    have ok2 : ObjOk X.prog X.w (upd H s.heap.objs.size (.tup [.int (i : Nat), .str ⟨#[c]⟩])) h2 s.heap.objs.size (.tup [.int (i : Nat), .str ⟨#[c]⟩]) := ⟨by show 2 ≤ sizeLine; decide, [.int i tk, .str ⟨#[c]⟩ u], .cons ⟨_, rfl⟩ (.cons ⟨_, rfl⟩ .nil), ⟨_, hT2, rfl, _, rfl⟩⟩
    have kp : ∀ b ob, b ∉ [e, it] → s.heap.get? b = some ob → h2.get? b = some ob := fun b ob hb q => by
      simp only [List.mem_cons, List.not_mem_nil, or_false, not_or] at hb
      exact (sb.2 b hb.1).trans (hk b ob hb.1 hb.2 q)
    have I1 : Inv X pins σ (upd H s.heap.objs.size (.tup [.int (i : Nat), .str ⟨#[c]⟩])) { s with heap := h2, toks := tk + 1 } := I.turnedNew (ch := [e, it]) kp hf (Nat.le_refl _) ok2
    have e1 : ((i + 1 : Nat) : Int) = (i : Int) + 1 := by omega
    have hit2 : h2.IsStrIter it (strIterType x) x t (i + 1) := by
      obtain ⟨o, q, r⟩ := hit'
      exact ⟨o, (sb.2 it (Ne.symm hne)).trans q, r⟩
    refine ⟨.ref s.heap.objs.size, _, I1, rfl, ⟨_, c, rfl, I.hok.fresh (Nat.le_refl _), rfl, hcx⟩, ⟨⟨_, by rw [e1]; exact he'⟩, hit2, hne, hg⟩, fun b hb => ?_⟩
    have hb' : b < s.heap.objs.size := by
      simp only [List.mem_cons, List.not_mem_nil, or_false] at hb
      rcases hb with rfl | rfl
      · exact hel
      · exact hil
    rw [upd_ne (Nat.ne_of_lt hb')]
    exact (hf b hb).1
  done := by
    intro X hP hw hK hc i pins s σ H E I hf st hg
    subst hP hw hK
    obtain ⟨⟨old, he⟩, hit, hne, hi⟩ := st
    obtain ⟨f0, f1, f2, f3, f4, f5⟩ := hf it (by simp)
    obtain rfl : i = x.cps.size := Nat.le_antisymm hi hg
    have D := Draws.text (prog := X.prog) (w := X.w) (A := X.A.in1) (I.ok.hd hc) it x t
    exact wpAny_pyNext_enum_endD D he hit fun h' eb => ⟨rfl, I.turned (t' := s.toks) (fun b o hb q => eb b o hb q) f0 f1 f3 f4 f5⟩
  self := fun A i s Q E st h => by obtain ⟨⟨_, he⟩, _⟩ := st; exact wpAny_pyIter_enum he h
def iEnumB (K : Frag) (ta : TA) : TI := fun σ H R => ta σ H fun vs H1 => (∃ a xs, vs = [.ref a] ∧ ((SqL K H1 a xs ∧ R (Ite K a) H1) ∨ (SqT K H1 a xs ∧ R (IteT K a) H1))) ∨ ∃ x, vs = [.str x] ∧ R (IteS x) H1
theorem pi_enumB {X : Cx} {e : Expr} {ta : TA} {p pos tpos : Pos} {elts : List Expr} {kk : Nat} (hg : Gl X "enumerate") (hm : X.mg "enumerate" = none) (ha : PA X [e] ta) (hs : starEach [e] X.env = [(false, eval e X.env)]) : PI X (.Tuple elts kk tpos) (.Call (.Name "enumerate" p) [e] [] pos) (iEnumB X.K ta) := by
  refine ⟨fun pins s σ H R I h => ?_⟩
  refine Call_ (ld_blt I hg hm boot_enumerate (PyProof.Rows.callWith_type1 (thn (ha.run pos pins s σ H _ I h) fun us s1 q1 => ?_) hs rfl))
  obtain ⟨vs, H1, I1, r1, q1⟩ := q1
  have fp : ∀ b ∈ [s1.heap.objs.size + 1, s1.heap.objs.size], FpOk X pins H1 b := fun b hb => by
    have hle : s1.heap.objs.size ≤ b := by
      simp only [List.mem_cons, List.not_mem_nil, or_false] at hb
      rcases hb with rfl | rfl
      · exact Nat.le_add_right _ _
      · exact Nat.le_refl _
    exact I1.fpOk hle (I1.hok.fresh hle)
  rcases q1 with ⟨a, xs, rfl, ⟨hq, q⟩ | ⟨hq, q⟩⟩ | ⟨x, rfl, q⟩
  · obtain ⟨u, rfl, ru⟩ := vals1 r1
    obtain rfl := ru
    obtain ⟨its, rv, p', hz⟩ := I1.list hq
    refine enum1_begins (begins_list a its.toArray) p'.isList fun h' he hit hk => wpAny_pyIter_enum he ?_
    have I2 : Inv X pins σ H1 { s1 with heap := h' } := I1.kept (t' := s1.toks) hk
    exact ⟨s1.heap.objs.size + 1, _, _, _, H1, rfl, I2, turn_enum a (s1.heap.objs.size + 1) s1.heap.objs.size, ⟨⟨.none, he⟩, ⟨_, hit, rfl, rfl⟩, Nat.succ_ne_self _⟩, fp, q⟩
  · obtain ⟨u, rfl, ru⟩ := vals1 r1
    obtain rfl := ru
    obtain ⟨its, rv, p', hz⟩ := I1.tuple hq
    have la : a < s1.heap.objs.size := by obtain ⟨o, e, _⟩ := id p'; exact Heap.lt_size e
    refine enum1_begins (begins_tuple a its.toArray) p' fun h' he hit hk => wpAny_pyIter_enum he ?_
    have I2 : Inv X pins σ H1 { s1 with heap := h' } := I1.kept (t' := s1.toks) hk
    exact ⟨s1.heap.objs.size + 1, _, _, _, H1, rfl, I2, turn_enumT a (s1.heap.objs.size + 1) s1.heap.objs.size, ⟨⟨.none, he⟩, ⟨_, hit, rfl, rfl⟩, Nat.succ_ne_self _, Nat.ne_of_gt (Nat.lt_succ_of_lt la), Nat.ne_of_lt la⟩, fp, q⟩
  · obtain ⟨u, rfl, t, rfl⟩ := vals1 r1
    refine enum1_begins (begins_text x t) trivial fun h' he hit hk => wpAny_pyIter_enum he ?_
    have I2 : Inv X pins σ H1 { s1 with heap := h' } := I1.kept (t' := s1.toks) hk
    exact ⟨s1.heap.objs.size + 1, _, _, _, H1, rfl, I2, turn_enumS x t (s1.heap.objs.size + 1) s1.heap.objs.size, ⟨⟨.none, he⟩, ⟨_, hit, rfl, rfl⟩, Nat.succ_ne_self _, Nat.zero_le _⟩, fp, q⟩
theorem itd_enumS {K : Frag} {Z1 : Zs} (z : Str) : ItD K (IteS z) Z1 (enumD 0 (Pz.signs z)) where
  go := fun Z k ok i hi => by
    rw [enum_len] at hi
    have : (Pz.signs z).length = z.cps.size := by simp [Pz.signs, tl]
    show i < z.cps.size
    omega
  stop := fun Z k ok => by
    rw [enum_len]
    show z.cps.size ≤ _
    simp [Pz.signs, tl]
  yld := fun Z k ok i v H' d e y => by
    obtain ⟨T, c, rfl, nT, rfl, hc⟩ := y
    obtain ⟨y, e', rfl⟩ := enum_get e
    have e2 : y = .str ⟨#[c]⟩ := by
      unfold Pz.signs at e'
      rw [List.getElem?_map] at e'
      have : (tl z)[i]? = some c := by simpa [tl] using hc
      rw [this] at e'
      exact (Option.some.inj e').symm
    subst e2
    have rr : Z.ImAll K [.int ((i : Nat) : Int), .str ⟨#[c]⟩] [.int ((0 + i : Nat) : Int), .str ⟨#[c]⟩] := by
      rw [Nat.zero_add]
      exact .cons (.int _) (.cons (.str _) .nil)
    exact ⟨Z.new T (.tup [.int (i : Nat), .str ⟨#[c]⟩]), ok.leNew nT, ok.new nT, rfl, rfl, ok.rpT nT rr⟩
def wEnumY (te : DA) : DI := fun Ed sl st Q => te Ed sl st fun ss st => match ss with
  | [.d (.tuple ds)] => Q (enumD 0 ds) st
  | [.d (.list ds)] => Q (enumD 0 ds) st
  | [.d (.str z)] => Q (enumD 0 (Pz.signs z)) st
  | _ => False
section
variable {X : Cx} {E : WXs} {Z0 : Zs} {e : Expr} {t : DA} {elts : List Expr} {kk : Nat} {pos p tpos : Pos} {K : Frag}
theorem di_enumY (hg : Gl X "enumerate") (hm : X.mg "enumerate" = none) (ha : DAs X E [e] t) (hs : starEach [e] X.env = [(false, eval e X.env)] := by rfl) : DIt X E (.Tuple elts kk tpos) (.Call (.Name "enumerate" p) [e] [] pos) (wEnumY t) :=
  ⟨piI (pi_enumB hg hm ha.run hs) fun σ H R ⟨Z, sl, Rd, Ed, h, ok, so, w, k, kx⟩ => ⟨Z, sl, _, Ed, h, ok, so, w, fun Z1 vs ss l1 ok1 r1 w1 => by
    simp only at w1
    split at w1
    · obtain ⟨v, rfl, rv⟩ := rp1 r1
      cases rv with
      | tup hh rr => exact .inl ⟨_, _, rfl, .inr ⟨hh.sq, k Z1 _ _ l1 ok1 (itd_enumT hh rr) w1⟩⟩
    · obtain ⟨v, rfl, rv⟩ := rp1 r1
      cases rv with
      | lst hh nn rr => exact .inl ⟨_, _, rfl, .inl ⟨.of hh, k Z1 _ _ l1 ok1 (itd_enum hh nn rr) w1⟩⟩
    · obtain ⟨v, rfl, rv⟩ := rp1 r1
      cases rv with
      | str z => exact .inr ⟨_, rfl, k Z1 _ _ l1 ok1 (itd_enumS _) w1⟩
    · exact w1.elim, kx⟩⟩
theorem wEnumY_ap {te : DA} {Ed : DX} {sl : Sls} {st : Sto} {Q : List PyData → Sto → Prop} : wEnumY te Ed sl st Q = (te Ed sl st fun ss st => match ss with
  | [.d (.tuple ds)] => Q (enumD 0 ds) st
  | [.d (.list ds)] => Q (enumD 0 ds) st
  | [.d (.str z)] => Q (enumD 0 (Pz.signs z)) st
  | _ => False) := rfl
def fDivmod : FA := fun ss st Q => match ss with
  | [s, t] => match vw st s, vw st t with
    | some (.int i), some (.int j) => CDivP i j ∧ Q (.d (.tuple [.int (i / j), .int (i % j)])) st
    | _, _ => False
  | _ => False
def fStr : FA := fun ss st Q => match ss with
  | [s] => match vw st s with
    | some (.int i) => i.natAbs < 10 ^ 100 ∧ Q (.d (.str (PyData.shown (.int i)))) st
    | _ => False
  | _ => False
def rStr : List V → Hp → VK → Prop := fun xs H Q => ∃ i, xs = [.int i] ∧ i.natAbs.log2 < 1920 ∧ Q (.str (toString i)) H
end
end Pz
set_option maxRecDepth 100000
namespace Pz
open PySem PySem.Spec PyProof.Rows L2 TL
variable [PenC]
section
variable {X : Cx} {E : WXs} {o e f : Expr} {td ty tx : DE} {apos cpos : Pos} {K : Frag}
def wDGet2 (td ty tx : DE) : DE := fun Ed sl st Q => td Ed sl st fun s st => (dkAt st s).isSome = true ∧ ty Ed sl st fun t st => tx Ed sl st fun u st => match dkAt st s, keyS st t with
  | some kvs, some k => match valD kvs k with
    | some d => Q (.d d) st
    | none => Q u st
  | _, _ => False
theorem wDGet2_ap {Ed : DX} {sl : Sls} {st : Sto} {Q : DK} : wDGet2 td ty tx Ed sl st Q = (td Ed sl st fun s st => (dkAt st s).isSome = true ∧ ty Ed sl st fun t st => tx Ed sl st fun u st => match dkAt st s, keyS st t with
  | some kvs, some k => match valD kvs k with
    | some d => Q (.d d) st
    | none => Q u st
  | _, _ => False) := rfl
end
end Pz
set_option maxRecDepth 100000
namespace Pz
open PySem PySem.Spec PyProof.Rows L2 TL
variable [PenC]
theorem alike_ints {ns : List Int} : PySem.W.AlikeAll (ns.map .int) := ⟨fun x mx y my => by
  obtain ⟨i, _, rfl⟩ := List.mem_map.mp mx
  obtain ⟨j, _, rfl⟩ := List.mem_map.mp my
  rfl, fun x mx => by
  obtain ⟨i, _, rfl⟩ := List.mem_map.mp mx
  exact nofun⟩
def rMaxDf (K : Frag) : List V → List V → Hp → VK → Prop := fun vs zs H Q => ∃ (a : Addr) (ns : List Int) (d : V), vs = [V.ref a] ∧ zs = [d] ∧ (SqL K H a (ns.map V.int) ∨ SqT K H a (ns.map V.int)) ∧ if ns = [] then Q d H else Q (.int (lmax ns)) H
section
variable {X : Cx} {E : WXs} {e f : Expr} {te tx : DE} {x : Str} {p pos kp : Pos} {K : Frag}
def wMaxDf (te tx : DE) : DE := fun Ed sl st Q => te Ed sl st fun s st => tx Ed sl st fun u st => ∃ ns, vwJ st s = some ns ∧ if ns = [] then Q u st else Q (.d (.int (lmax ns))) st
theorem wMaxDf_ap {Ed : DX} {sl : Sls} {st : Sto} {Q : DK} : wMaxDf te tx Ed sl st Q = (te Ed sl st fun s st => tx Ed sl st fun u st => ∃ ns, vwJ st s = some ns ∧ if ns = [] then Q u st else Q (.d (.int (lmax ns))) st) := rfl
end
end Pz
set_option maxRecDepth 100000
namespace Pz
open PySem PySem.Spec PyProof.Rows L2 TL
variable [PenC]
section
variable {X : Cx} {E : WXs} {Z0 : Zs} {e : Expr} {es : List Expr} {t : DA} {pos p : Pos} {x : Str} {f : FD} {n k m : Nat} {N : List Str} {τ : DS}
def spFO (f : FD) : DSp := fun ss cs Q Ed => cs = [] ∧ f ss fun d => match d with
  | .list ds => Q (.o 0) [.lst ds]
  | _ => False
theorem lFO (ok : FOk f n) : ∀ ss cs Q Ed, spFO f ss cs Q Ed → ss.length = n := fun ss cs Q Ed h => (ok.dat _ _ h.2).1
def aFO (f : FD) (ss : List Sl) (st : Sto) (Q : DK) : Prop := f ss fun d => match d with
  | .list ds => Q (.o st.length) (st ++ [.lst ds])
  | _ => False
theorem aFO_loc (ok : FOk f n) : ∀ ss st Q Ed, aFO f ss st Q → locCall (spFO f) ss st Q Ed := fun ss st Q Ed h => by
  unfold aFO at h
  have h1 := (ok.dat _ _ h).2
  simp only [locCall, hsOf_allD h1, getAll, locS_allD h1]
  refine ⟨fun c m => (by cases m), rfl, ok.mono _ _ _ (fun d w => ?_) h⟩
  cases d with
  | list ds =>
    refine ⟨fun z m => ?_, ?_⟩
    · rw [List.mem_singleton.mp m]; trivial
    · simpa [gloS, putAll] using w
  | _ => exact w.elim
def wCallFO (f : FD) (t : DA) : DE := fun Ed sl st Q => t Ed sl st fun ss st => aFO f ss st Q
theorem wCallFO_ap {f : FD} {t : DA} {Ed : DX} {sl : Sls} {st : Sto} {Q : DK} : wCallFO f t Ed sl st Q = (t Ed sl st fun ss st => aFO f ss st Q) := rfl
variable {fa : Addr} {fd : FuncData} {ps : List Str}
theorem de_callFO (ok : FOk f n) (F : FnD X.prog X.w X.K X.mg X.base CX0 k fa fd ps (spFO f)) (hA : X.A.guards = some []) (hr : Room k X.A) (hn : n = ps.length) (hg : Gl X x) (hm : X.mg x = some (.ref fa)) (hk : PySem.W.keepIn X.K (.ref fa) = true) (hb : Binds X.K fd ps [])
    (ha : DAs X E (e :: es) t) (hdb : (x == ("__debug__" : Str)) = false := by decide) (he : starEach (e :: es) X.env = (false, eval e X.env) :: starEach es X.env := by rfl) (hpl : (backTo pos (starEach es X.env)).any (·.1) = false := by rfl) :
    DEx X E (.Call (.Name x p) (e :: es) [] pos) (wCallFO f t) :=
  de_callA (aFO_loc ok) F hA hr (fun ss cs Q Ed h => hn ▸ lFO ok ss cs Q Ed h) hg hm hk hb ha hdb he hpl
theorem hFO (h : ∀ (ss : List Sl) (Qd : DK), (f ss fun d => match d with
    | .list ds => Qd (.o 0) [.lst ds]
    | _ => False) → τ (end0 Qd) (startS N ss) []) :
    ∀ (ss : List Sl) (cs : Sto) (Qd : DK) (Ed : DXF), spFO f ss cs Qd Ed → ss.length = m → cs.length = 0 ∧ τ (end0 Qd) (startS N ss) cs := by
  rintro ss cs Qd Ed ⟨rfl, w⟩ _
  exact ⟨rfl, h ss Qd w⟩
end
mutual
theorem okR_lay : ∀ {d : PyData}, okR d = true → d.canLay0 = true
  | .none, _ => by rw [PyData.canLay0]
  | .bool _, _ => by rw [PyData.canLay0]
  | .int _, _ => by rw [PyData.canLay0]
  | .str _, h => by rw [PyData.canLay0]; simpa [okR] using h
  | .list _, h => by rw [PyData.canLay0]; exact okR_layAll (by simpa [okR] using h)
  | .tuple _, h => by rw [PyData.canLay0]; exact okR_layAll (by simpa [okR] using h)
  | .dict _, h => by simp [okR] at h
theorem okR_layAll : ∀ {ds : List PyData}, okRAll ds = true → PyData.canLayAll0 ds = true
  | [], _ => by rw [PyData.canLayAll0]
  | d :: ds, h => by
    simp only [okRAll, Bool.and_eq_true] at h
    rw [PyData.canLayAll0, okR_lay h.1, okR_layAll h.2]
    rfl
end
theorem RepP.shp {d : PyData} {w k : Nat} (h : RepP w k d) (hk : k ≤ 60) : SeqAt.shaped d = true := by
  have := h.dp
  simp only [SeqAt.shaped, okR_lay h.ok, Bool.true_and, decide_eq_true_eq]
  omega
mutual
def plainD : PyData → Bool
  | .none => true
  | .bool _ => false
  | .int _ => true
  | .str _ => true
  | .list xs => plainAll xs
  | .tuple xs => plainAll xs
  | .dict _ => false
def plainAll : List PyData → Bool
  | [] => true
  | d :: ds => plainD d && plainAll ds
end
mutual
theorem eqv_iff : ∀ {d e : PyData}, plainD d = true → plainD e = true → (PyData.eqv d e = true ↔ d = e)
  | .none, e, _, h => by cases e <;> simp_all [PyData.eqv, plainD]
  | .bool _, e, h, _ => by simp [plainD] at h
  | .int _, e, _, h => by cases e <;> simp_all [PyData.eqv, plainD]
  | .str _, e, _, h => by cases e <;> simp_all [PyData.eqv, plainD]
  | .list xs, e, h1, h2 => by
    cases e with
    | list ys => rw [PyData.eqv, PyData.list.injEq]; exact eqv_iffAll (by simpa [plainD] using h1) (by simpa [plainD] using h2)
    | _ => simp [PyData.eqv]
  | .tuple xs, e, h1, h2 => by
    cases e with
    | tuple ys => rw [PyData.eqv, PyData.tuple.injEq]; exact eqv_iffAll (by simpa [plainD] using h1) (by simpa [plainD] using h2)
    | _ => simp [PyData.eqv]
  | .dict _, e, h, _ => by simp [plainD] at h
theorem eqv_iffAll : ∀ {ds es : List PyData}, plainAll ds = true → plainAll es = true → (PyData.eqvAll ds es = true ↔ ds = es)
  | [], [], _, _ => by simp [PyData.eqvAll]
  | [], e :: es, _, _ => by simp [PyData.eqvAll]
  | d :: ds, [], _, _ => by simp [PyData.eqvAll]
  | d :: ds, e :: es, h1, h2 => by
    simp only [plainAll, Bool.and_eq_true] at h1 h2
    rw [PyData.eqvAll, Bool.and_eq_true, eqv_iff h1.1 h2.1, eqv_iffAll h1.2 h2.2, List.cons.injEq]
end
theorem eqv_same {d : PyData} (h : plainD d = true) : PyData.eqv d d = true := (eqv_iff h h).mpr rfl
end Pz
set_option maxRecDepth 100000
namespace HT
open PySem PySem.Spec PyProof.Rows L2
section
variable {prog : Program} {w : World} {A : Around} {E : Value → Shared → Prop} {s : Shared}
end
end HT
namespace L2
open PySem PySem.Spec PyProof.Rows
section
variable {X : Cx}
def tRevY (K : PySem.W.Frag) (te : TE) : TE := fun σ H Q => te σ H fun x H1 => (∃ a xs, x = .ref a ∧ SqL K H1 a xs ∧ ∀ p, H1 p = none → Q (.ref p) (upd H1 p (.lst xs.reverse))) ∨ (∃ a xs, x = .ref a ∧ SqT K H1 a xs ∧ ∀ p, H1 p = none → Q (.ref p) (upd H1 p (.tup xs.reverse)))
def rSortedSA (K : PySem.W.Frag) : List V → Hp → VK → Prop := fun vs H Q => ∃ (a : Addr) (xs : List Str), vs = [V.ref a] ∧ SqL K H a (xs.map V.str) ∧
  ∀ (ys : List Str) (p : Addr), ys.Perm xs → sortedS ys = true → H p = none → Q (.ref p) (upd H p (.lst (ys.map V.str)))
end
end L2
namespace Pz
open PySem PySem.Spec PyProof.Rows L2 TL
variable [PenC]
section
variable {X : Cx} {E : WXs} {Z0 : Zs} {e : Expr} {te : DE} {pos p : Pos} {x : Str} {K : Frag}
def wRevY (te : DE) : DE := fun Ed sl st Q => te Ed sl st fun s st => match vw st s with
  | some (.list ds) => Q (.d (.list ds.reverse)) st
  | some (.tuple ds) => Q (.d (.tuple ds.reverse)) st
  | _ => False
theorem wRevY_ap {te : DE} {Ed : DX} {sl : Sls} {st : Sto} {Q : DK} : wRevY te Ed sl st Q = (te Ed sl st fun s st => match vw st s with
  | some (.list ds) => Q (.d (.list ds.reverse)) st
  | some (.tuple ds) => Q (.d (.tuple ds.reverse)) st
  | _ => False) := rfl
def fSortedS : FA := fun ss st Q => match ss with
  | [s] => match vw st s with
    | some (.list ds) => ∃ zs, asStrs ds = some zs ∧ ∀ ys : List Str, ys.Perm zs → sortedS ys = true → Q (.d (.list (ys.map .str))) st
    | _ => False
  | _ => False
end
end Pz
set_option maxRecDepth 100000
namespace Pz
open PySem PySem.Spec PyProof.Rows L2 TL
variable [PenC]
section
variable {K : Frag}
def mStr2 (g : Str → Str → Str) : FM := fun s ss st Q => match ss with
  | [t] => match vw st s, vw st t with
    | some (.str a), some (.str b) => a.length ≤ 16777216 ∧ Q (.d (.str (g a b))) st
    | _, _ => False
  | _ => False
def mStrip : FM := fun s ss st Q => mStr2 Txt.stripChars s ss st Q
def mLstrip : FM := fun s ss st Q => mStr2 Txt.lstripChars s ss st Q
def mRstrip : FM := fun s ss st Q => mStr2 Txt.rstripChars s ss st Q
def mPart : FM := fun s ss st Q => match ss with
  | [t] => match vw st s, vw st t with
    | some (.str a), some (.str b) => b.length ≠ 0 ∧ a.length ≤ 16777216 ∧ Q (.d (.tuple [.str (Txt.partition a b).1, .str (Txt.partition a b).2.1, .str (Txt.partition a b).2.2])) st
    | _, _ => False
  | _ => False
end
def subS (z y : Str) : Bool := !(Builtin.Str.occurrences y z 0 y.length 1).isEmpty
def oInT (x y : Sl) (st : Sto) (Q : DK) : Prop := match vw st x, vw st y with
  | some (.str z), some (.str y) => Q (.d (.bool (subS z y))) st
  | _, _ => False
end Pz
set_option maxRecDepth 100000
namespace Pz
open PySem PySem.Spec PyProof.Rows L2 TL
variable [PenC]
def itOk (d : PyData) : Prop := okR d = true ∨ d = .dict []
section
variable {X : Cx} {pins : List (Addr × Obj)} {σ : L2.St} {H : Hp} {s : Shared} {W : Addr → Prop}
end
def rShowX (K : Frag) : List V → Hp → VK → Prop := fun xs H Q => rShow K xs H Q ∨ ∃ (a : Addr) (ds : List PyData) (W : Addr → Prop), xs = [.ref a] ∧ Im K W H (.ref a) (.tuple ds) ∧ (∀ d ∈ ds, itOk d) ∧ (PyData.tuple ds).depth ≤ 60 ∧ (PyData.tuple ds).shown.length ≤ sizeLine ∧ Q (.str (PyData.tuple ds).shown) H
structure RepX (ds : List PyData) : Prop where
  ok : ∀ d ∈ ds, itOk d
  st : PyData.strOk (PyData.tuple ds).shown = true
  ln : (PyData.tuple ds).shown.length ≤ sizeLine
  dp : (PyData.tuple ds).depth ≤ 60
theorem RepX.sh {ds : List PyData} (h : RepX ds) : SeqAt.shaped (.str (PyData.tuple ds).shown) = true := sh_str h.st
def fRepX : FA := fun ss st Q => match ss with
  | [.d (.tuple ds)] => RepX ds ∧ Q (.d (.str (PyData.tuple ds).shown)) st
  | _ => False
end Pz
set_option maxRecDepth 100000
namespace Pz
open PySem PySem.Spec PyProof.Rows L2 TL
variable [PenC]
section
variable {X : Cx} {E : WXs} {Z0 : Zs} {K : Frag} {e : Expr} {te : DE} {pos : Pos}
def kdD (kvs : KD) : List (PyData × PyData) := kvs.map fun p => (keyD p.1, p.2)
def frzX (h : Nat) (x : PyData) : Option Sl → Option Sl
  | some (.o j) => if j = h then some (.d x) else some (.o j)
  | s => s
def wFrzX (n0 i : Nat) (u : DS) : DS := fun D sl st => match nthS sl i with
  | some (.o h) => match st[h]? with
    | some (.dK kvs) => n0 ≤ h ∧ (∀ c ∈ st, NoRef h c) ∧ u D (sl.map (frzX h (.dict (kdD kvs)))) (st.set h .dead)
    | _ => False
  | _ => u D sl st
theorem wFrzX_ap {n0 i : Nat} {u : DS} {nx bk ct : Sls → Sto → Prop} {rt : DK} {ex : DX} {sl : Sls} {st : Sto} : wFrzX n0 i u ⟨nx, rt, ex, bk, ct⟩ sl st = (match nthS sl i with
  | some (.o h) => match st[h]? with
    | some (.dK kvs) => n0 ≤ h ∧ (∀ c ∈ st, NoRef h c) ∧ u ⟨nx, rt, ex, bk, ct⟩ (sl.map (frzX h (.dict (kdD kvs)))) (st.set h .dead)
    | _ => False
  | _ => u ⟨nx, rt, ex, bk, ct⟩ sl st) := rfl
def unKE : List (PyData × PyData) → Option KD
  | [] => some []
  | (k, d) :: r => match keyOf k, unKE r with
    | some k, some r => some ((k, d) :: r)
    | _, _ => none
def unKD : List (PyData × PyData) → Option KD
  | (.none, .bool false) :: r => unKE r
  | l => unKE l
theorem keyOf_keyD (k : Key) : keyOf (keyD k) = some k := by cases k <;> rfl
theorem unKE_kdD : ∀ kvs : KD, unKE (kdD kvs) = some kvs
  | [] => rfl
  | (k, d) :: r => by
    show unKE ((keyD k, d) :: kdD r) = _
    rw [unKE, keyOf_keyD, unKE_kdD r]
theorem unKD_kdD : ∀ kvs : KD, unKD (kdD kvs) = some kvs
  | [] => rfl
  | (.inl i, d) :: r => by
    show unKE ((PyData.int i, d) :: kdD r) = _
    exact unKE_kdD ((.inl i, d) :: r)
  | (.inr i, d) :: r => by
    show unKE ((PyData.str i, d) :: kdD r) = _
    exact unKE_kdD ((.inr i, d) :: r)
theorem unKD_loc (kvs : KD) : unKD (mkK :: kdD kvs) = some kvs := unKE_kdD kvs
def oDGetX (s t : Sl) (st : Sto) (Q : DK) : Prop := match s, keyS st t with
  | .d (.dict l), some k => match unKD l with
    | some kvs => ∃ d, valD kvs k = some d ∧ Q (.d d) st
    | none => False
  | _, _ => False
def wSwp (te to ti to2 ti2 : DE) : DS := fun D sl st => te D.ex sl st fun v st => match v with
  | .d (.tuple [y, z]) => to D.ex sl st fun o st => ti D.ex sl st fun i st => match o, i with
    | .o h, .d (.int j) => match st[h]? with
      | some (.lst ds) => match ixN ds.length j with
        | some n => to2 D.ex sl (st.set h (.lst (ds.set n y))) fun o2 st => ti2 D.ex sl st fun i2 st => match o2, i2 with
          | .o h2, .d (.int j2) => match st[h2]? with
            | some (.lst ds2) => match ixN ds2.length j2 with
              | some n2 => D.nx sl (st.set h2 (.lst (ds2.set n2 z)))
              | none => False
            | _ => False
          | _, _ => False
        | none => False
      | _ => False
    | _, _ => False
  | _ => False
theorem wSwp_ap {te to ti to2 ti2 : DE} {nx bk ct : Sls → Sto → Prop} {rt : DK} {ex : DX} {sl : Sls} {st : Sto} : wSwp te to ti to2 ti2 ⟨nx, rt, ex, bk, ct⟩ sl st = (te ex sl st fun v st => match v with
  | .d (.tuple [y, z]) => to ex sl st fun o st => ti ex sl st fun i st => match o, i with
    | .o h, .d (.int j) => match st[h]? with
      | some (.lst ds) => match ixN ds.length j with
        | some n => to2 ex sl (st.set h (.lst (ds.set n y))) fun o2 st => ti2 ex sl st fun i2 st => match o2, i2 with
          | .o h2, .d (.int j2) => match st[h2]? with
            | some (.lst ds2) => match ixN ds2.length j2 with
              | some n2 => nx sl (st.set h2 (.lst (ds2.set n2 z)))
              | none => False
            | _ => False
          | _, _ => False
        | none => False
      | _ => False
    | _, _ => False
  | _ => False) := rfl
end
end Pz
set_option maxRecDepth 100000
set_option maxHeartbeats 2000000
namespace PySem
namespace Xc
open PySem.W PySem.Calls PyProof.Rows PySem.HandSPX
def refsT (bmB : List Value) : List Value → Bool
  | .ref _ :: r => refsT bmB r
  | l => l == bmB
theorem refsT_cases {bmB : List Value} (l : List Value) (e : refsT bmB l = true) : (∃ c r, l = .ref c :: r ∧ refsT bmB r = true) ∨ l = bmB := by
  unfold refsT at e
  split at e
  · rename_i c r
    exact .inl ⟨c, r, rfl, e⟩
  · exact .inr (beq_iff_eq.mp e)
theorem refsT_contains {bmB : List Value} (X : String) : ∀ l : List Value, refsT bmB l = true → l.contains (.type X) = bmB.contains (.type X) := by
  intro l
  induction l with
  | nil =>
    intro e
    rcases refsT_cases _ e with ⟨c, r, q, _⟩ | q
    · cases q
    · rw [q]
  | cons a r ih =>
    intro e
    rcases refsT_cases (a :: r) e with ⟨c, r', q, h⟩ | q
    · obtain ⟨rfl, rfl⟩ := List.cons.inj q
      rw [List.contains_cons, ih h]; rfl
    · rw [q]
def iA (f : Str) (p1 p2 : Pos) : Arguments := { posonlyargs := [], args := [{ arg := "self", annotation := none, pos := p1 }, { arg := f, annotation := none, pos := p2 }], vararg := none, kwonlyargs := [], kw_defaults := [], kwarg := none, defaults := [] }
def iB (f : Str) (q1 q2 q3 q4 : Pos) : List Stmt := [.Assign [.Attribute (.Name "self" q1) f q2] (.Name f q3) q4]
def iS (f : Str) : Scope := { kind := .function, names := [(PySem.Str.ofString "self", .local), (f, .local)], isGenerator := false, isCoroutine := false, more := [] }
structure Txt (B newId initId : String) (bmB : List Value) (f qn : Str) (K : Frag) (C fI : Addr) : Prop where
  cls : ∃ nm q N bs bm sn sub ab col dd k0 k1 k2 k3 k5, K.lookup C = some (excClassObj nm q C N bs bm true sn sub ab col dd k0 k1 k2 k3 k5 newId) ∧ refsT bmB bm = true
  sa : findIn K (.ref C) "__setattr__" = some (some (.builtin "object.__setattr__"))
  noN : findIn K (.ref C) f = some none
  iC : findIn K (.ref C) "__init__" = some (some (.ref fI))
  tC : typeIn K (.ref fI) = some (.type "function")
  kC : keepIn K (.ref C) = true
  exC : subIn K (.ref C) (.type "BaseException") = some true
  tyC : typeIn K (.ref C) = some (.type "type")
  fn : ∃ (oc : Value) (od : Option Addr) (doc pm : Value) (an : Option Addr) (cdv ct : Value) (osl : Array (Option Value)) (p1 p2 q1 q2 q3 q4 : Pos),
    K.lookup fI = some ⟨oc, od, .func (fnOf "__init__" qn (iA f p1 p2) (iB f q1 q2 q3 q4) (iS f) .none .none doc pm an cdv ct), osl⟩ ∧ codeIn K cdv qn = true
section
variable {prog : Program} {w : World} {A : Around} {E : Value → Shared → Prop} {R : Result → Shared → Prop} {hp : Heap} {g : Array GenState} {d : Drawn} {t : Nat} {os : OsState} {B newId initId ow : String} {bmB : List Value}
end
theorem one_size (v : Value) : [v].length ≤ sizeLine := by
  rw [sizeLine_eq]
  exact (by decide : 1 ≤ 16777216)
structure InitEnd (h h' : Heap) (x C dx t1 : Addr) (f : Str) (v : Value) : Prop where
  keep : ∀ b o, b ≠ x → h.get? b = some o → h'.get? b = some o
  obj : h'.get? x = some { cls := .ref C, dict := some dx, data := .fields #[.ref t1, .none, .none, .none, .bool false, .none] }
  dbig : h.objs.size ≤ dx
  dne : dx ≠ x
  ns : h'.Ns1 dx (fun y => if y = f then some v else none)
structure OwnMade (h h' : Heap) (e C d : Addr) (f : Str) (v : Value) : Prop where
  keep : ∀ b o, h.get? b = some o → h'.get? b = some o
  new : h.objs.size ≤ e
  obj : ∃ oe vs, h'.get? e = some oe ∧ oe.cls = .ref C ∧ oe.dict = some d ∧ oe.data = .fields vs ∧ vs[1]? = some .none
  dbig : h.objs.size ≤ d
  dne : d ≠ e
  ns : h'.Ns1 d (fun y => if y = f then some v else none)
def InitRun (B newId initId : String) (bmB : List Value) (f qn : Str) (K : Frag) (C fI : Addr) : Prop := ∀ (prog : Program) (w : World) (A : Around) (R : Result → Shared → Prop) (s : Shared) (x t0 : Addr) (v : Value), Txt B newId initId bmB f qn K C fI → K.In s.heap → s.heap.NoLimit → s.heap.get? x = some (excO C t0) → A.depth < recursionLimit →
    (∀ h' tk dx, InitEnd s.heap h' x C dx t0 f v → R (.ok (.ret .none)) { s with heap := h', toks := tk }) → codeAny (model prog w) A (.call (.ref fI) ⟨[.ref x, v], []⟩) R s
section
variable {K : Frag} {C fI : Addr} {B newId initId ow : String} {bmB : List Value} {qn : Str}
end
section
variable {prog : Program} {w : World} {A : Around} {E : Value → Shared → Prop} {R : Result → Shared → Prop} {s : Shared} {K : Frag} {C fI : Addr} {B newId initId : String} {bmB : List Value} {f qn : Str}
theorem made (F : ExcBaseFacts B newId initId bmB) (IR : InitRun B newId initId bmB f qn K C fI) (T : Txt B newId initId bmB f qn K C fI) {v : Value} (X : K.In s.heap) (hlim : s.heap.NoLimit) (hroom : A.depth + 1 < recursionLimit)
    (hq : ∀ h' tk e d, OwnMade s.heap h' e C d f v → R (.ok (.ret (.ref e))) { s with heap := h', toks := tk }) :
    codeAny (model prog w) A (.call (.ref C) ⟨[v], []⟩) R s := by
  obtain ⟨nm, q, N, bs, bm, sn, sub, ab, col, dd, k0, k1, k2, k3, k5, hC, hbm⟩ := T.cls
  obtain ⟨hp, g, dr, tk, os⟩ := s
  have k : ∀ b o, hp.get? b = some o → ((hp.push (kdv_tup [v])).push (excO C hp.objs.size)).get? b = some o := fun b o e => Heap.get?_push_of_some _ (Heap.get?_push_of_some _ e)
  have hget : ((hp.push (kdv_tup [v])).push (excO C hp.objs.size)).get? (hp.objs.size + 1) = some (excO C hp.objs.size) := by heap_get
  refine call_own F (fun X => refsT_contains X bm hbm) (X _ _ hC) (looks_findIn X T.iC) (fun self => bind_fn X self T.tC) (one_size v) ?_
  refine IR _ _ _ _ ⟨(hp.push (kdv_tup [v])).push (excO C hp.objs.size), g, dr, tk, os⟩ _ _ _ T (X.keeps k) (hlim.keeps k) hget ?_ fun h' tk' dx ⟨k', hx, dn, dne, hns⟩ => ?_
  · show A.depth + 1 < recursionLimit
    exact hroom
  · have old : ∀ b o, hp.get? b = some o → h'.get? b = some o := fun b o e => k' b o (Nat.ne_of_lt (Nat.lt_succ_of_lt (Heap.lt_size e))) (k b o e)
    have z : hp.objs.size + 1 + 1 ≤ dx := by
      first
        | (simpa only [Heap.size_push] using dn)
        | exact dn
        | (have q := dn; rw [Heap.size_push, Heap.size_push] at q; exact q)
    exact ⟨rfl, hq h' tk' (hp.objs.size + 1) dx ⟨old, Nat.le_succ _, ⟨_, _, hx, rfl, rfl, rfl, rfl⟩, Nat.le_trans (Nat.le_trans (Nat.le_succ _) (Nat.le_succ _)) z, dne, hns⟩⟩
end
end Xc
end PySem
namespace L2
open PySem PySem.Spec PyProof.Rows
section
variable {X : Cx} {C fI : Addr} {B newId initId : String} {bmB : List Value} {f qn x : Str}
def tMk1 (f : Str) (C : Addr) (ta : TA) : St → Hp → XK → Prop := fun σ H Q => ta σ H fun vs H1 => ∃ v, vs = [v] ∧ ∀ d, H1 d = none → Q (.ref C) (some d) (upd H1 d (.xd [(f, v)]))
end
end L2
set_option maxRecDepth 100000
namespace PySem.W
open PySem PySem.Spec PySem.Calls PyProof.Rows
variable {M : Model} {K : Frag}
end PySem.W
namespace L2
open PySem PySem.Spec PyProof.Rows
abbrev ExO (c : Value) (d : Option Addr) (a : Addr) : HO := Pz.ExH c d a
section
variable {X : Cx} {pins : List (Addr × Obj)} {σ : St} {H : Hp} {s : Shared}
inductive NmL (X : Cx) : List Expr → List Value → Prop
  | nil : NmL X [] []
  | cons {x : Str} {c : Value} {p : Pos} {es : List Expr} {cs : List Value} (hc : Names X x c) (r : NmL X es cs) (hs : starEach (.Name x p :: es) X.env = (false, eval (.Name x p) X.env) :: starEach es X.env := by rfl) : NmL X (.Name x p :: es) (c :: cs)
def ClTest (X : Cx) (te : Expr) (cs : List Value) : Prop := ∀ {a : Addr} {oe : Obj} {pn pins : List (Addr × Obj)} {σ : St} {H : Hp} {s : Shared}, Inv (X.suite a ((a, oe) :: pn)) pins σ H s → ∀ {Q : Value → Shared → Prop} {E : Value → Shared → Prop},
    (∀ (cv : Value) (s' : Shared), (∀ b o, s.heap.get? b = some o → s'.heap.get? b = some o) → s'.os = s.os → AllBare s'.gens → (∀ (M : Model) (cls : Value), PySem.W.Looks M s'.heap (typeOf (.ref a)) cls → ∀ b, PySem.W.exmAny X.K cls cs = some b → PySem.W.Looks M s'.heap (excMatches (.ref a) cv) b) → Q cv s') →
    wpAny (model X.prog X.w) (X.A.mark (some (.ref a))) (eval te X.env) Q E s
end
def wKeep (K : PySem.W.Frag) (cs : List Value) (i j : Nat) (Wout : WX) (D : Ends) : WX := fun cls d σ H =>
  ∃ b, PySem.W.exmAny K cls cs = some b ∧ (b = true → ∀ a, H a = none → D.nx (((σ.set i (some (.ref a))).set j (some (.ref a))).set i none) (upd H a (ExO cls d a))) ∧ (b = false → Wout cls d σ H)
section
variable {X : Cx} {n : Str} {te : Expr} {cs : List Value} {i j : Nat} {body : List Stmt} {b₀ : Stmt} {pos pos' : Pos} {tb : WX → TS} {Wout : WX}
end
end L2
set_option maxRecDepth 100000
namespace L2
open PySem PySem.Spec PyProof.Rows
section
variable {X : Cx} {CX : CXT} {k : Nat} {f : Addr} {fd : FuncData} {ps : List Str} {sp : Sp} {E : St → XK} {x : Str} {p pos : Pos} {e : Expr} {es : List Expr} {t : TA}
variable {kws : List Keyword} {tk : TA} {n : Nat} {ks : List Str} {g : ∀ {α : Type}, List α → List α → List α}
def tCallWS (n m : Nat) (sp : Sp) (g : ∀ {α : Type}, List α → List α → List α) (E : St → XK) (t tk : TA) : TE := fun σ H Q => t σ H fun vs H1 => tk σ H1 fun zs H2 => vs.length = n ∧ zs.length = m ∧ sp (g vs zs) H2 Q (E σ)
end
def ExAt (H : Hp) (a C : Addr) (d : Option Addr) : Prop := H a = some (ExO (.ref C) d a) ∧ ∀ dx, d = some dx → ∃ fs, H dx = some (.xd fs)
def rIsE (K : PySem.W.Frag) : List V → Hp → VK → Prop := fun xs H Q => ∃ (a C : Addr) (d : Option Addr) (c : V) (b : Bool), xs = [.ref a, c] ∧ ExAt H a C d ∧ XcF K C ∧
  ((∃ u, L2.ClsV c u ∧ PySem.W.kitOne K (.ref C) u = some b) ∨ ∃ (tp : Addr) (cs : List V) (us : List Value), c = .ref tp ∧ H tp = some (.tup cs) ∧ Paired L2.ClsV cs us ∧ PySem.W.kitAny K (.ref C) us = some b) ∧ Q (.bl b) H
def tXfH (K : PySem.W.Frag) (f : Str) (te : TE) : TE := fun σ H Q => te σ H fun x H1 => ∃ (a C dx : Addr) (fs : List (Str × V)) (v : V), x = .ref a ∧ ExAt H1 a C (some dx) ∧ H1 dx = some (.xd fs) ∧ XcF K C ∧ PySem.W.findIn K (.ref C) f = some none ∧ fs.lookup f = some v ∧ Q v H1
end L2
set_option maxRecDepth 100000
namespace Pz
open PySem PySem.Spec PyProof.Rows L2 TL
variable [PenC]
abbrev FDX := List Sl → (PyData → Prop) → (Str → List (Str × PyData) → Prop) → Prop
structure FOkX (f : FDX) (n : Nat) : Prop where
  dat : ∀ ss k e, f ss k e → ss.length = n ∧ allD ss = true
  mono : ∀ ss k k' e e', (∀ d, k d → k' d) → (∀ c fs, e c fs → e' c fs) → f ss k e → f ss k' e'
def spX (f : FDX) : DSp := fun ss cs Q Ed => cs = [] ∧ f ss (fun d => Q (.d d) []) fun c fs => Ed c fs []
section
variable {f : FDX} {n m : Nat} {N : List Str} {τ : DS}
abbrev endX (Qd : DK) (Ed : DXF) : DEnds := ⟨fun _ st => Ret 0 (.d .none) st Qd, fun s st => Ret 0 s st Qd, fun c fs _ _ => Ed c fs [], fun _ _ => False, fun _ _ => False⟩
end
section
variable {P : Program} {w : World} {K : Frag} {mg : Str → Option Value} {base : Heap} {k : Nat} {f : Addr} {fd : FuncData} {ps N : List Str} {dsp : DSp} {x qual : Str} {st : Stmt}
end
section
variable {X : Cx} {E : WXs} {Z0 : Zs} {k n m : Nat} {fa : Addr} {fd : FuncData} {ps ks : List Str} {f : FDX} {x : Str} {p pos : Pos} {e : Expr} {es : List Expr} {t tkw : DA} {kws : List Keyword}
def wCallX (f : FDX) (t : DA) : DE := fun Ed sl st Q => t Ed sl st fun ss st => f ss (fun d => Q (.d d) st) fun c fs => Ed c fs sl st
theorem wCallX_ap {Ed : DX} {sl : Sls} {st : Sto} {Q : DK} : wCallX f t Ed sl st Q = (t Ed sl st fun ss st => f ss (fun d => Q (.d d) st) fun c fs => Ed c fs sl st) := rfl
def wCallWX (n m : Nat) (f : FDX) (g : ∀ {α : Type}, List α → List α → List α) (t tk : DA) : DE := fun Ed sl st Q => t Ed sl st fun ss st => tk Ed sl st fun zs st => ss.length = n ∧ zs.length = m ∧ f (g ss zs) (fun d => Q (.d d) st) fun c fs => Ed c fs sl st
theorem wCallWX_ap {g : ∀ {α : Type}, List α → List α → List α} {Ed : DX} {sl : Sls} {st : Sto} {Q : DK} : wCallWX n m f g t tkw Ed sl st Q = (t Ed sl st fun ss st => tkw Ed sl st fun zs st => ss.length = n ∧ zs.length = m ∧ f (g ss zs) (fun d => Q (.d d) st) fun c fs => Ed c fs sl st) := rfl
variable {gg : ∀ {α : Type}, List α → List α → List α}
end
end Pz
set_option maxRecDepth 100000
namespace Pz
open PySem PySem.Spec PyProof.Rows L2 TL
variable [PenC]
def clsUp : List (Str × Str) := [("PrismError", "ValueError"), ("InvalidText", "PrismError"), ("UnbalancedBracket", "PrismError"), ("IndentedStart", "PrismError"), ("BadDedent", "PrismError"), ("InconsistentTabs", "PrismError"), ("NoIndent", "PrismError"), ("Unreachable", "PrismError"), ("InvalidReading", "PrismError"), ("RootConflict", "PrismError"), ("InvalidTokens", "PrismError"), ("InvalidOperation", "PrismError"), ("InvalidNotation", "PrismError"), ("UnknownCommand", "PrismError"),
  ("TooLong", "OverflowError"), ("TooMany", "OverflowError"), ("NoVariant", "IndexError"), ("NoLine", "IndexError"), ("Busy", "RuntimeError"), ("NothingToUndo", "RuntimeError"), ("NothingToRedo", "RuntimeError")]
def subN : Nat → Str → Str → Bool
  | 0, c, y => c == y
  | n + 1, c, y => c == y || match clsUp.lookup c with
    | some d => subN n d y
    | none => false
def subB (c y : Str) : Bool := subN 3 c y
def NmV (K : Frag) (y : Str) (u : Value) : Prop := ClsV K y u ∨ ∃ n : String, y = Str.ofString n ∧ PySem.W.nsIn K mainGlobals y = some none ∧ u = .type n
def NmF (K : Frag) (mg : Str → Option Value) (y : Str) : Prop := (∃ C, mg y = some (.ref C) ∧ ClsV K y (.ref C)) ∨ ∃ n : String, y = Str.ofString n ∧ mg y = none ∧ bootBuiltins y = some (.type n) ∧ PySem.W.nsIn K mainGlobals y = some none
structure XRel (K : Frag) (mg : Str → Option Value) (L M F : List Str) : Prop where
  own : ∀ c ∈ L, ∀ cv, ClsV K c cv → ∃ C, cv = .ref C ∧ XcF K C
  rel : ∀ c ∈ L, ∀ cv, ClsV K c cv → ∀ y ∈ M, ∀ u, NmV K y u → PySem.W.kitOne K cv u = some (subB c y) ∧ PySem.W.exmOne K cv u = some (subB c y)
  nms : ∀ y ∈ M, NmF K mg y
  fld : ∀ c ∈ L, ∀ cv, ClsV K c cv → ∀ f ∈ F, PySem.W.findIn K cv f = some none
section
variable {K : Frag} {mg : Str → Option Value} {L M F : List Str}
end
section
variable {X : Cx} {E : WXs} {Z0 : Zs} {L M F : List Str} {x f : Str} {p pos pos' : Pos} {a e : Expr} {t : DA} {te : DE} {k : Nat}
def wRaise1 (x f : Str) (t : DA) : DS := fun D sl st => t D.ex sl st fun ss st => match ss with
  | [.d y] => D.ex x [(f, y)] sl st
  | _ => False
theorem wRaise1_ap {nx bk ct : Sls → Sto → Prop} {rt : DK} {ex : DX} {sl : Sls} {st : Sto} : wRaise1 x f t ⟨nx, rt, ex, bk, ct⟩ sl st = (t ex sl st fun ss st => match ss with
  | [.d y] => ex x [(f, y)] sl st
  | _ => False) := rfl
def Mk1 (K : Frag) (mg : Str → Option Value) (x f : Str) : Prop := ∃ (C fI : Addr) (B newId initId : String) (bmB : List Value) (qn : Str), mg x = some (.ref C) ∧ ClsV K x (.ref C) ∧ ExcBaseFacts B newId initId bmB ∧ PySem.Xc.InitRun B newId initId bmB f qn K C fI ∧ PySem.Xc.Txt B newId initId bmB f qn K C fI
def Mk0 (K : Frag) (mg : Str → Option Value) (x : Str) : Prop := ∃ (C : Addr) (B newId initId : String) (bmB : List Value), mg x = some (.ref C) ∧ ClsV K x (.ref C) ∧ ExcBaseFacts B newId initId bmB ∧ PySem.W.excIn K C bmB newId = true ∧ PySem.W.keepIn K (.ref C) = true ∧ PySem.W.subIn K (.ref C) (.type "BaseException") = some true ∧ PySem.W.typeIn K (.ref C) = some (.type "type")
def wRaise0 (x : Str) : DS := fun D sl st => D.ex x [] sl st
theorem wRaise0_ap {nx bk ct : Sls → Sto → Prop} {rt : DK} {ex : DX} {sl : Sls} {st : Sto} : wRaise0 x ⟨nx, rt, ex, bk, ct⟩ sl st = ex x [] sl st := rfl
theorem nm_val {y : Str} (h : NmF X.K X.mg y) (hg : Gl X y) (hn : y ≠ "__name__") (hd : (y == ("__debug__" : Str)) = false) : ∃ u c, NmV X.K y u ∧ L2.ClsV c u ∧ Names X y u ∧ PE X (.Name y p) (tC c) := by
  rcases h with ⟨C, h1, h2⟩ | ⟨n, rfl, h1, h2, h3⟩
  · exact ⟨.ref C, .ref C, .inl h2, .own C, ⟨hg, hd, .inl h1⟩, pe_glob hg h1 rfl hd⟩
  · exact ⟨.type n, .ty n, .inr ⟨n, rfl, h3, rfl⟩, .ty n, ⟨hg, hd, .inr ⟨h1, h2, hn⟩⟩, pe_bltn hg h1 h2 rfl hn hd⟩
inductive NmsL (X : Cx) (M : List Str) : List Expr → List Str → Prop
  | nil : NmsL X M [] []
  | cons {y : Str} {p : Pos} {es : List Expr} {ys : List Str} (hm : y ∈ M) (r : NmsL X M es ys) (hg : Gl X y := by rfl) (hn : y ≠ "__name__" := by decide) (hd : (y == ("__debug__" : Str)) = false := by decide) (hs : starEach (.Name y p :: es) X.env = (false, eval (.Name y p) X.env) :: starEach es X.env := by rfl) : NmsL X M (.Name y p :: es) (y :: ys)
theorem NmsL.mem {es : List Expr} {ys : List Str} (h : NmsL X M es ys) : ∀ y ∈ ys, y ∈ M := by
  induction h with
  | nil => intro y m; cases m
  | cons hm r _ _ _ _ ih => exact fun y m => (List.mem_cons.mp m).elim (fun e => e ▸ hm) (ih y)
theorem NmsL.val (R : XRel X.K X.mg L M F) {es : List Expr} {ys : List Str} (h : NmsL X M es ys) : ∃ us cs, Paired (NmV X.K) ys us ∧ Paired L2.ClsV cs us ∧ NmL X es us ∧ ∃ ta : TA, PA X es ta ∧ ∀ σ H (Q : List V → Hp → Prop), Q cs H → ta σ H Q := by
  induction h with
  | nil => exact ⟨[], [], .nil, .nil, .nil, _, pa_nil, fun σ H Q q => q⟩
  | @cons y p es ys hm r hg hn hd hs ih =>
    obtain ⟨us, cs, h1, h2, h3, ta, h4, h5⟩ := ih
    obtain ⟨u, c, q1, q2, q3, q4⟩ := nm_val (p := p) (R.nms y hm) hg hn hd
    exact ⟨u :: us, c :: cs, .cons q1 h1, .cons q2 h2, .cons q3 h3 hs, _, pa_cons q4 h4 hs, fun σ H Q q => h5 σ H _ q⟩
def NmsT (X : Cx) (te : Expr) (M ys : List Str) : Prop := (∀ y ∈ ys, y ∈ M) ∧ ∀ {L F : List Str}, XRel X.K X.mg L M F → ∃ us, Paired (NmV X.K) ys us ∧ ClTest X te us
def wTry (L ys : List Str) (i j : Nat) (u : DS) : DS := fun D sl st => u ⟨D.nx, D.rt, fun c fs sl' st' => c ∈ L ∧ if ys.any (subB c) = true then D.nx (((sl'.set i (some (.o st'.length))).set j (some (.o st'.length))).set i none) (st' ++ [.exc c fs]) else D.ex c fs sl' st', D.bk, D.ct⟩ sl st
theorem wTry_ap {ys : List Str} {i j : Nat} {u : DS} {nx bk ct : Sls → Sto → Prop} {rt : DK} {ex : DX} {sl : Sls} {st : Sto} : wTry L ys i j u ⟨nx, rt, ex, bk, ct⟩ sl st = u ⟨nx, rt, fun c fs sl' st' => c ∈ L ∧ if ys.any (subB c) = true then nx (((sl'.set i (some (.o st'.length))).set j (some (.o st'.length))).set i none) (st' ++ [.exc c fs]) else ex c fs sl' st', bk, ct⟩ sl st := rfl
def excF : List (PyData × PyData) → Option (List (Str × PyData))
  | [] => some []
  | (.str f, x) :: r => (excF r).map fun l => (f, x) :: l
  | _ => none
theorem excF_map : ∀ fs : List (Str × PyData), excF (fs.map fun p => (.str p.1, p.2)) = some fs
  | [] => rfl
  | (f, x) :: r => by simp [excF, excF_map r]
def excOf (st : Sto) : Sl → Option (Str × List (Str × PyData))
  | .o h => match st[h]? with
    | some (.exc c fs) => some (c, fs)
    | _ => none
  | .d (.dict ((.none, .str c) :: r)) => (excF r).map fun fs => (c, fs)
  | _ => none
theorem excOf_d {st : Sto} {c : Str} {fs : List (Str × PyData)} : excOf st (.d (excD c fs)) = some (c, fs) := by
  unfold excD excOf
  dsimp only
  rw [excF_map]
  rfl
theorem excOf_o {st : Sto} {h : Nat} : excOf st (.o h) = match st[h]? with
    | some (.exc c fs) => some (c, fs)
    | _ => none := rfl
def wIsE (L ys : List Str) (te : DE) : DE := fun Ed sl st Q => te Ed sl st fun s st => match excOf st s with
  | some (c, _) => c ∈ L ∧ Q (.d (.bool (ys.any (subB c)))) st
  | none => False
theorem wIsE_ap {ys : List Str} {Ed : DX} {sl : Sls} {st : Sto} {Q : DK} : wIsE L ys te Ed sl st Q = (te Ed sl st fun s st => match excOf st s with
  | some (c, _) => c ∈ L ∧ Q (.d (.bool (ys.any (subB c)))) st
  | none => False) := rfl
def wXf (L : List Str) (f : Str) (te : DE) : DE := fun Ed sl st Q => te Ed sl st fun s st => match excOf st s with
  | some (c, fs) => c ∈ L ∧ ∃ d, fs.lookup f = some d ∧ Q (.d d) st
  | none => False
theorem wXf_ap {Ed : DX} {sl : Sls} {st : Sto} {Q : DK} : wXf L f te Ed sl st Q = (te Ed sl st fun s st => match excOf st s with
  | some (c, fs) => c ∈ L ∧ ∃ d, fs.lookup f = some d ∧ Q (.d d) st
  | none => False) := rfl
end
theorem an {α : Type} {P : α → Prop} : ∀ c ∈ ([] : List α), P c := fun c m => by cases m
def NmK (K : Frag) (y : Str) : Prop := (∃ C, PySem.W.nsIn K mainGlobals y = some (some (.ref C))) ∨ ∃ n : String, y = Str.ofString n ∧ bootBuiltins y = some (.type n) ∧ PySem.W.nsIn K mainGlobals y = some none
structure XRelK (K : Frag) (L M F : List Str) : Prop where
  own : ∀ c ∈ L, ∀ cv, ClsV K c cv → ∃ C, cv = .ref C ∧ XcF K C
  rel : ∀ c ∈ L, ∀ cv, ClsV K c cv → ∀ y ∈ M, ∀ u, NmV K y u → PySem.W.kitOne K cv u = some (subB c y) ∧ PySem.W.exmOne K cv u = some (subB c y)
  nms : ∀ y ∈ M, NmK K y
  fld : ∀ c ∈ L, ∀ cv, ClsV K c cv → ∀ f ∈ F, PySem.W.findIn K cv f = some none
theorem XRelK.to {K : Frag} {h : Heap} {mg : Str → Option Value} {L M F : List Str} (R : XRelK K L M F) (X : K.In h) (G : h.Ns mainGlobals mg) : XRel K mg L M F :=
  ⟨R.own, R.rel, fun y m => by
    rcases R.nms y m with ⟨C, e⟩ | ⟨n, e1, e2, e3⟩
    · exact .inl ⟨C, PySem.W.mg_of X G e, e⟩
    · exact .inr ⟨n, e1, PySem.W.mg_none_of X G e3, e2, e3⟩, R.fld⟩
section
variable {K : Frag} {c y f : Str} {C D : Addr} {cv u : Value} {b : Bool}
end
def Mk1K (K : Frag) (x f : Str) : Prop := ∃ (C fI : Addr) (B newId initId : String) (bmB : List Value) (qn : Str), PySem.W.nsIn K mainGlobals x = some (some (.ref C)) ∧ ExcBaseFacts B newId initId bmB ∧ PySem.Xc.InitRun B newId initId bmB f qn K C fI ∧ PySem.Xc.Txt B newId initId bmB f qn K C fI
theorem Mk1K.to {K : Frag} {h : Heap} {mg : Str → Option Value} {x f : Str} (R : Mk1K K x f) (X : K.In h) (G : h.Ns mainGlobals mg) : Mk1 K mg x f := by
  obtain ⟨C, fI, B, a, b, bm, qn, e, h1, h2, h3⟩ := R
  exact ⟨C, fI, B, a, b, bm, qn, PySem.W.mg_of X G e, e, h1, h2, h3⟩
def Mk0K (K : Frag) (x : Str) : Prop := ∃ (C : Addr) (B newId initId : String) (bmB : List Value), PySem.W.nsIn K mainGlobals x = some (some (.ref C)) ∧ ExcBaseFacts B newId initId bmB ∧ PySem.W.excIn K C bmB newId = true ∧ PySem.W.keepIn K (.ref C) = true ∧ PySem.W.subIn K (.ref C) (.type "BaseException") = some true ∧ PySem.W.typeIn K (.ref C) = some (.type "type")
theorem Mk0K.to {K : Frag} {h : Heap} {mg : Str → Option Value} {x : Str} (R : Mk0K K x) (X : K.In h) (G : h.Ns mainGlobals mg) : Mk0 K mg x := by
  obtain ⟨C, B, a, b, bm, e, h1, h2⟩ := R
  exact ⟨C, B, a, b, bm, PySem.W.mg_of X G e, e, h1, h2⟩
end Pz
set_option maxRecDepth 100000
namespace Pz
open PySem PySem.Spec PyProof.Rows L2 TL
variable [PenC]
section
variable {X : Cx} {E : WXs} {Z0 : Zs} {e : Expr} {es : List Expr} {t : DA} {pos p : Pos} {x : Str} {f : FDX} {n k m : Nat} {N : List Str} {τ : DS}
def spXO (f : FDX) : DSp := fun ss cs Q Ed => cs = [] ∧ f ss (fun d => match d with
  | .list ds => Q (.o 0) [.lst ds]
  | _ => False) fun c fs => Ed c fs []
def aXO (f : FDX) (ss : List Sl) (st : Sto) (Q : DK) (Ed : DXF) : Prop := f ss (fun d => match d with
  | .list ds => Q (.o st.length) (st ++ [.lst ds])
  | _ => False) fun c fs => Ed c fs st
def wCallXO (f : FDX) (t : DA) : DE := fun Ed sl st Q => t Ed sl st fun ss st => aXO f ss st Q fun c fs st => Ed c fs sl st
theorem wCallXO_ap {Ed : DX} {sl : Sls} {st : Sto} {Q : DK} : wCallXO f t Ed sl st Q = (t Ed sl st fun ss st => aXO f ss st Q fun c fs st => Ed c fs sl st) := rfl
variable {fa : Addr} {fd : FuncData} {ps : List Str}
end
end Pz
set_option maxRecDepth 100000
namespace Pz
open PySem PySem.Spec PyProof.Rows L2 TL
variable [PenC]
def isKy : PyData → Bool
  | .none => false
  | _ => true
mutual
def noLst : PyData → Bool
  | .none | .bool _ | .int _ | .str _ => true
  | .list _ => false
  | .tuple ds => noLstAll ds
  | .dict kvs => noLstKv kvs
def noLstAll : List PyData → Bool
  | [] => true
  | x :: xs => noLst x && noLstAll xs
def noLstKv : List (PyData × PyData) → Bool
  | [] => true
  | (k, v) :: r => isKy k && (noLst v && noLstKv r)
end
theorem noLstKv_zip : ∀ {ks ds : List PyData}, ks.length = ds.length → noLstKv (ks.zip ds) = true → noLstAll ds = true
  | [], [], _, _ => rfl
  | [], _ :: _, h, _ => by simp at h
  | _ :: _, [], h, _ => by simp at h
  | k :: ks, d :: ds, h, e => by
    rw [List.zip_cons_cons, noLstKv, Bool.and_eq_true, Bool.and_eq_true] at e
    rw [noLstAll, e.2.1, noLstKv_zip (by simpa using h) e.2.2]
    rfl
section
variable {X : Cx} {pins : List (Addr × Obj)} {σ : L2.St} {H : Hp} {s : Shared} {W : Addr → Prop}
theorem keys_reads {P : Program} {w : World} {kvs : List (Key × V)} {xs : List (Key × Value)} (r : KV kvs xs) : ∀ {es : List DictEntry}, PySem.Pairs (mixKind P w) es xs → ReadsAll s.heap (es.map (·.key)) (kvs.map fun p => keyD p.1) [] ∧ Vals (kvs.map (·.2)) (es.map (·.val)) := by
  induction r with
  | nil =>
    intro es p
    cases p
    exact ⟨.nil, .nil⟩
  | cons h _ ih =>
    intro es p
    cases p with
    | cons p1 p2 p3 =>
      obtain ⟨i1, i2⟩ := ih p3
      rename_i a b l1 l2 r0 e es'
      obtain ⟨ha, hb⟩ := h
      refine ⟨?_, ?_⟩
      · have : Reads s.heap e.key (keyD a.1) [] := by
          rw [ha]
          have p1' : keyIs b.1 e.key = true := p1
          rcases keyIs_shape p1' with ⟨i, t, e1, e2⟩ | ⟨x, t, e1, e2⟩
          · rw [e1, e2]; exact .int i t
          · rw [e1, e2]; exact .str x t
        exact ReadsAll.cons (as := []) (bs := []) this i1
      · exact .cons (show RelV a.snd e.val by rw [p2]; exact hb) i2
mutual
theorem Im.reads (I : Inv X pins σ H s) : ∀ {v : V} {d : PyData}, Im X.K W H v d → noLst d = true → ∀ {u : Value}, RelV v u → ∃ as, Reads s.heap u d as ∧ sysModules ∉ as
  | _, _, .non, _, _, r => by cases r; exact ⟨_, .none, by simp⟩
  | _, _, .bl b, _, _, r => by cases r; exact ⟨_, .bool b, by simp⟩
  | _, _, .int i, _, _, r => by obtain ⟨t, rfl⟩ := r; exact ⟨_, .int i t, by simp⟩
  | _, _, .str x, _, _, r => by obtain ⟨t, rfl⟩ := r; exact ⟨_, .str x t, by simp⟩
  | _, _, .lst _ _ _, e, _, _ => by simp [noLst] at e
  | _, _, .tup (a := a) q r, e, _, rv => by
    obtain rfl := rv
    obtain ⟨its, rv, ⟨o, ho, hc, n, hd⟩, _⟩ := I.tuple q.sq
    obtain ⟨as, h1, h2⟩ := ImAll.reads I r (by simpa [noLst] using e) rv
    exact ⟨as, .tuple ho hc hd h1, h2⟩
  | _, _, .dct (a := a) (kvs := kvs) (ds := ds) q n r, e, _, rv => by
    obtain rfl := rv
    have hh := I.hok a _ q
    unfold L2.ObjOk at hh
    obtain ⟨_, q1, vs, kv, o, es, ep, g1, g2, g3, g4, g5, g6⟩ := hh
    obtain ⟨k1, k2⟩ := keys_reads (s := s) kv g5
    have hl := r.length
    rw [List.length_map] at hl
    have e2 : noLstKv ((kvs.map fun p => keyD p.1).zip ds) = true := by simpa [noLst] using e
    have e3 : noLstAll ds = true := noLstKv_zip (by rw [List.length_map]; exact hl) e2
    obtain ⟨as, h1, h2⟩ := ImAll.reads I r e3 k2
    have m1 : ((kvs.map fun p => keyD p.1).zip ds).map (·.1) = kvs.map fun p => keyD p.1 := List.map_fst_zip (by rw [List.length_map]; omega)
    have m2 : ((kvs.map fun p => keyD p.1).zip ds).map (·.2) = ds := List.map_snd_zip (by rw [List.length_map]; omega)
    refine ⟨a :: [] ++ as, .dict g1 g2.1 g3 (by rw [m1]; exact k1) (by rw [m2]; exact h1), ?_⟩
    intro m
    rcases List.mem_cons.mp m with m | m
    · rw [← m] at q1
      simp at q1
    · exact h2 m
  | _, _, .dcl _ _ _, e, _, _ => by simp [noLst, noLstKv, isKy, mkK] at e
  | _, _, .dcT _ _ _, e, _, _ => by simp [noLst, noLstKv, isKy, mkT] at e
  | _, _, .dcN _ _ _, e, _, _ => by simp [noLst, noLstKv, isKy, mkN] at e
  | _, _, .exc _ _ _ _ _ _, e, _, _ => by simp [noLst, noLstKv, isKy] at e
theorem ImAll.reads (I : Inv X pins σ H s) : ∀ {vs : List V} {ds : List PyData}, ImAll X.K W H vs ds → noLstAll ds = true → ∀ {us : List Value}, Vals vs us → ∃ as, ReadsAll s.heap us ds as ∧ sysModules ∉ as
  | _, _, .nil, _, _, r => by cases r; exact ⟨_, .nil, by simp⟩
  | _, _, .cons q t, e, _, r => by
    simp only [noLstAll, Bool.and_eq_true] at e
    cases r with
    | cons r1 r2 =>
      obtain ⟨as, h1, h2⟩ := Im.reads I q e.1 r1
      obtain ⟨bs, h3, h4⟩ := ImAll.reads I t e.2 r2
      exact ⟨_, .cons h1 h3, by simp [h2, h4]⟩
end
end
structure RepZ (d : PyData) : Prop where
  no : noLst d = true
  sw : d.showable = true
  st : PyData.strOk d.shown = true
  ln : d.shown.length ≤ sizeLine
  dp : d.depth ≤ 60
theorem RepZ.sh {d : PyData} (h : RepZ d) : SeqAt.shaped (.str d.shown) = true := sh_str h.st
def rShowZ (K : Frag) : List V → Hp → VK → Prop := fun xs H Q => rShow K xs H Q ∨ ∃ (a : Addr) (d : PyData) (W : Addr → Prop), xs = [.ref a] ∧ Im K W H (.ref a) d ∧ RepZ d ∧ Q (.str d.shown) H
def fRepZ : FA := fun ss st Q => match ss with
  | [s] => match vw st s with
    | some d => (RepOk d ∨ (RepZ d ∧ s = .d d)) ∧ Q (.d (.str d.shown)) st
    | none => False
  | _ => False
end Pz
set_option maxRecDepth 100000
namespace Pz
open PySem PySem.Spec PyProof.Rows L2 TL PySem.W
variable [PenC]
section
variable {prog : Program} {w : World} {A : Around} {E : Value → Shared → Prop} {s : Shared} {z : Str} {t : Tok}
theorem kds_hint {Q : Bool → Shared → Prop} (h : Q false s) : wpAny (model prog w) A (Builtin.List.listLengthHint (.str z t)) Q E s := by
  have hT : s.TypeIs (.str z t) "str" := typeIs_str s z t
  unfold Builtin.List.listLengthHint
  refine wpAny_bind (wpAny_specialOf hT PySem.F.slot_str_len.lookup ?_)
  generalize hid : ("str.__len__" : String) = id0
  wp_delta
  rw [show splitId id0 = some ("str", "__len__") from by subst hid; decide +kernel]
  subst hid
  refine wpAny_bind (wpAny_isInstance (T := "str") (b := true) hT (by rw [isSubtype_type]; kernel_rfl) ?_)
  refine wpAny_ite_split (fun hab => absurd hab (by decide)) (fun _ => ?_)
  refine wpAny_ite_split (fun _ => ?_) (fun hab => absurd (by decide +kernel) hab)
  refine wpAny_bind (wpAny_typeOf hT ?_)
  exact wpAny_pure h
theorem kds_extend {R : Result → Shared → Prop} (hh : A.handled = none) (S : Addr) (res : Value) (c₀ : Nat) (hS : s.heap.get? S = some { cls := .type "list", data := .seq #[] c₀ })
    (hR : ∀ h' tk acc' c', (∀ b o, b ≠ S → s.heap.get? b = some o → h'.get? b = some o) → h'.get? S = some { cls := .type "list", dict := none, data := .seq acc' c', slots := #[] } → ItemsOf (SignAt z) acc' z.cps.size → R (.ok (.ret res)) { s with heap := h', toks := tk }) (hn : z.cps.size ≤ sizeLine) :
    wpAny (model prog w) A.in1 (Builtin.List.listExtendWith (.ref S) (.str z t) res)
      (fun fin s' => match fin with | .done f => R (.ok f) s' | .again c' => c'.quiet = true ∧ codeAny (model prog w) A c' R s') (fun e s' => R (.error e) s') s := by
  have hSI : S ≠ s.heap.objs.size := Nat.ne_of_lt (Heap.lt_size hS)
  have hSf : S ∉ [s.heap.objs.size] := by simp only [List.mem_cons, List.not_mem_nil, or_false]; exact hSI
  unfold Builtin.List.listExtendWith
  refine wpAny_bind (wpAny_typeOf (T := "str") (typeIs_str s z t) ?_)
  have h1 : Builtin.List.listSameRef (.ref S) (.str z t) = false := rfl
  have h2 : (Value.type "str" == Value.type "list") = false := by decide
  have h3 : (Value.type "str" == Value.type "tuple") = false := by decide
  simp only [h1, h2, h3, Bool.or_false, Bool.false_eq_true, if_false]
  refine wpAny_bind (wpAny_pyIter_str fun oI St W st => ?_)
  have hS₁ := Heap.get?_push_of_some oI hS
  refine wpAny_bind (wpAny_holding (kds_hint ?_))
  refine wpAny_ite_split (fun hab => absurd hab (by decide)) (fun _ => wpAny_pure ⟨plainId_quiet PySem.F.plain_extend_loop _, ?_⟩)
  refine codeAny_extend_loopS (W A.in1 hh).toS hn S hSf res z.cps.size 0 _ #[] c₀ rfl (Nat.zero_le _) st hS₁ (ItemsOf.nil _) fun s' acc' c' hm hS' hacc => ?_
  rw [Moved.eq_with hm]
  refine hR s'.heap s'.toks acc' c' (fun b o hb e => hm.heap b o (fun hmem => ?_) (Heap.get?_push_of_some _ e)) hS' hacc
  rcases List.mem_cons.mp hmem with e' | hmem
  · exact hb e'
  · exact absurd (Heap.lt_size e) (by rw [List.mem_singleton.mp hmem]; exact Nat.lt_irrefl _)
theorem kds_init {R : Result → Shared → Prop} (hh : A.handled = none) (S : Addr) (hS : s.heap.get? S = some { cls := .type "list", data := .seq #[] })
    (hR : ∀ h' tk acc' c', (∀ b o, b ≠ S → s.heap.get? b = some o → h'.get? b = some o) → h'.get? S = some { cls := .type "list", dict := none, data := .seq acc' c', slots := #[] } → ItemsOf (SignAt z) acc' z.cps.size → R (.ok (.ret .none)) { s with heap := h', toks := tk }) (hn : z.cps.size ≤ sizeLine) :
    wpAny (model prog w) A.in1 (Builtin.«list.__init__» ⟨[.ref S, .str z t], []⟩)
      (fun fin s' => match fin with | .done f => R (.ok f) s' | .again c' => c'.quiet = true ∧ codeAny (model prog w) A c' R s') (fun e s' => R (.error e) s') s := by
  show wpAny _ _ (do let old ← Builtin.List.listItems (.ref S); Builtin.List.listUpdate (.ref S) (fun _ => #[]); letGo old.toList.reverse; Builtin.List.listExtendWith (.ref S) (.str z t) .none) _ _ s
  refine wpAny_bind ?_
  unfold Builtin.List.listItems
  refine wpAny_bind (wpAny_seqItems hS rfl (wpAny_pure ?_))
  show wpAny _ _ (updateSeq S (fun _ => #[]) >>= fun _ => letGo (#[] : Array Value).toList.reverse >>= fun _ => Builtin.List.listExtendWith (.ref S) (.str z t) .none) _ _ s
  refine wpAny_bind (wpAny_updateSeq hS rfl ?_)
  have hS₂ := Heap.get?_update_self (Obj.mapSeq (fun _ => (#[] : Array Value))) hS rfl
  have oth : ∀ b o, b ≠ S → s.heap.get? b = some o → (s.heap.update S (Obj.mapSeq (fun _ => (#[] : Array Value)))).get? b = some o :=
    fun b o hb e => (Heap.get?_update_other _ _ (Ne.symm hb)).trans e
  refine wpAny_bind (wpAny_letGo ?_)
  refine kds_extend hh S .none _ hS₂ (fun h' tk acc' c' hk hS' hacc => ?_) hn
  exact hR h' tk acc' c' (fun b o hb e => hk b o hb (oth b o hb e)) hS' hacc
theorem kds_call {Q : Value → Shared → Prop} (hh : A.handled = none) (hn : z.cps.size ≤ sizeLine)
    (hQ : ∀ h' tk acc' c', (∀ b o, s.heap.get? b = some o → h'.get? b = some o) → h'.get? s.heap.objs.size = some { cls := .type "list", dict := none, data := .seq acc' c', slots := #[] } → ItemsOf (SignAt z) acc' z.cps.size → Q (.ref s.heap.objs.size) { s with heap := h', toks := tk }) :
    wpAny (model prog w) A (call (.type "list") [.str z t]) Q E s := by
  refine callType_codes (Q₁ := fun obj s₁ => obj = .ref s.heap.objs.size ∧ s₁ = { s with heap := s.heap.push { cls := .type "list", data := .seq #[] } }) PySem.F.called_list (PySem.F.typeCall_list_1 _) PySem.F.entry_list_init
    (code_list_new _ ⟨rfl, rfl⟩) fun obj s₁ h₁ => ?_
  obtain ⟨rfl, rfl⟩ := h₁
  have hS : (s.heap.push { cls := .type "list", data := .seq #[] }).get? s.heap.objs.size = some { cls := .type "list", data := .seq #[] } := Heap.get?_push_size _ rfl
  refine ⟨⟨_, hS, rfl⟩, PySem.F.args_list_init_2 _ _, kds_init (A := A.in1) hh _ hS (fun h' tk acc' c' hk hS' hacc => ?_) hn⟩
  exact ⟨rfl, hQ h' tk acc' c' (fun b o e => hk b o (Nat.ne_of_lt (Heap.lt_size e)) (Heap.get?_push_of_some _ e)) hS' hacc⟩
end
section
variable {X : Cx} {K : Frag}
def sgV (z : Str) : List V := (tl z).map fun c => .str ⟨#[c]⟩
def rListS : List V → Hp → VK → Prop := fun xs H Q => ∃ z, xs = [V.str z] ∧ z.length ≤ sizeLine ∧ ∀ l, H l = none → Q (.ref l) (upd H l (.lst (sgV z)))
theorem call_list_str (hc : X.calm = true) : CallR X (.type "list") rListS := by
  intro pins s σ H xs us Q I r h
  obtain ⟨z, rfl, hz, q⟩ := h
  obtain ⟨u, rfl, rx⟩ := vals1 r
  obtain ⟨t, rfl⟩ := rx
  have hz2 : z.cps.size ≤ sizeLine := hz
  refine kds_call (I.ok.hd hc) hz2 fun h' tk acc c' hk hD hacc => ?_
  have hl : (sgV z).length = z.cps.size := by simp [sgV, tl]
  have hv : Vals (sgV z) acc.toList := by
    have go : ∀ (vs : List V) (us : List Value), us.length = vs.length → (∀ (j : Nat) (u : Value), us[j]? = some u → ∃ v, vs[j]? = some v ∧ RelV v u) → Vals vs us := by
      intro vs
      induction vs with
      | nil => intro us hl _; cases us with | nil => exact .nil | cons _ _ => simp at hl
      | cons v vs ih =>
        intro us hl hj
        cases us with
        | nil => simp at hl
        | cons u us =>
          obtain ⟨v', e, r⟩ := hj 0 u rfl
          simp at e
          subst e
          exact .cons r (ih us (by simpa using hl) fun j u e => hj (j + 1) u (by simpa using e))
    refine go _ _ (by rw [hl, Array.length_toList]; exact hacc.1) fun j u e => ?_
    obtain ⟨c, t', e1, rfl⟩ := hacc.2 j u (by rw [← Array.getElem?_toList]; exact e)
    refine ⟨.str ⟨#[c]⟩, ?_, ⟨t', rfl⟩⟩
    rw [sgV, List.getElem?_map]
    have : (tl z)[j]? = some c := by rw [← e1]; simp [tl]
    rw [this]; rfl
  refine ⟨.ref s.heap.objs.size, upd H s.heap.objs.size (.lst (sgV z)), I.laid (t' := tk) hk (Nat.le_refl _)
    (show ObjOk X.prog X.w _ _ _ (.lst (sgV z)) from ⟨by rw [hl]; exact hz2, acc.toList, c', hv, by rw [Array.toArray_toList]; exact hD⟩), rfl, q _ (I.hok.fresh (Nat.le_refl _))⟩
end
section
variable {K : Frag}
def rListE (K : Frag) : List V → Hp → VK → Prop := fun xs H Q => (∃ p ys, xs = [.ref p] ∧ (SqL K H p ys ∨ SqT K H p ys) ∧ ∀ l, H l = none → Q (.ref l) (upd H l (.lst ys))) ∨ rListS xs H Q
theorem call_listE {X : Cx} (hc : X.calm = true) : CallR X (.type "list") (rListE X.K) := call_list_of.or (call_list_str hc)
def fListE : FA := fun ss st Q => match ss with
  | [s] => match vw st s with
    | some (.list ds) => Q (.d (.list ds)) st
    | some (.tuple ds) => Q (.d (.list ds)) st
    | some (.str z) => z.length ≤ 16777216 ∧ Q (.d (.list (signs z))) st
    | _ => False
  | _ => False
def fListEO : FA := fun ss st Q => match ss with
  | [s] => match vw st s with
    | some (.list ds) => Q (.o st.length) (st ++ [.lst ds])
    | some (.tuple ds) => Q (.o st.length) (st ++ [.lst ds])
    | some (.str z) => z.length ≤ 16777216 ∧ Q (.o st.length) (st ++ [.lst (signs z)])
    | _ => False
  | _ => False
theorem signs_im {W : Addr → Prop} {H : Hp} (z : Str) : ImAll K W H (sgV z) (signs z) := by
  unfold sgV signs
  induction tl z with
  | nil => exact .nil
  | cons c l ih => exact .cons (.str _) ih
theorem rp_strV {Z : Zs} {v : V} {s : Sl} {z : Str} (r : Rp K Z v s) (e : vw Z.st s = some (.str z)) : v = .str z := by
  have i := r.data e fun ds h => by cases h
  cases i
  rfl
theorem cd_listE : CallD K (rListE K) fListE := by
  intro Z vs ss Qd Q ok ra w k
  unfold fListE at w
  split at w
  · obtain ⟨v, rfl, r⟩ := rp1 ra
    split at w
    · rename_i ds e
      obtain ⟨a, xs, rfl, h, q⟩ := r.list ok e
      exact .inl ⟨a, xs, rfl, .inl (.of h), k.newL ok q w⟩
    · rename_i ds e
      obtain ⟨a, xs, rfl, h, q⟩ := r.tuple e
      exact .inl ⟨a, xs, rfl, .inr h.sq, k.newL ok q w⟩
    · rename_i z e
      obtain rfl := rp_strV r e
      exact .inr ⟨z, rfl, w.1, fun l n => k.newL ok (signs_im z) w.2 l n⟩
    · exact w.elim
  · exact w.elim
end
end Pz
set_option maxRecDepth 100000
namespace Pz
open PySem PySem.Spec PyProof.Rows L2 TL
variable [PenC]
section
variable {X : Cx} {E : WXs} {pos : Pos} {K : Frag}
abbrev Zs.cut (Z : Zs) (n : Nat) : Zs := Zs.mk (Z.φ.take n) (Z.st.take n) Z.H Z.F
def kvD (kvs : KD) : List (PyData × PyData) := kvs.map fun kv => (keyD kv.1, kv.2)
def wDispD (r : DP) : DE := fun Ed sl st Q => r Ed sl (st ++ [.dK []]) fun kvs st2 => st2[st.length]? = some (.dK []) ∧ kvs.length ≤ 15 ∧ (∀ c ∈ st2.take st.length, Cl st.length c) ∧ Q (.d (.dict (kvD (mergeD [] kvs)))) (st2.take st.length)
theorem wDispD_ap {r : DP} {Ed : DX} {sl : Sls} {st : Sto} {Q : DK} : wDispD r Ed sl st Q = (r Ed sl (st ++ [.dK []]) fun kvs st2 => st2[st.length]? = some (.dK []) ∧ kvs.length ≤ 15 ∧ (∀ c ∈ st2.take st.length, Cl st.length c) ∧ Q (.d (.dict (kvD (mergeD [] kvs)))) (st2.take st.length)) := rfl
theorem mergeD1 {k : Key} {d : PyData} : mergeD [] [(k, d)] = [(k, d)] := rfl
theorem kvD1 {k : Key} {d : PyData} : kvD [(k, d)] = [(keyD k, d)] := rfl
theorem keyD_s {x : Str} : keyD (.inr x) = .str x := rfl
theorem keyD_i {x : Int} : keyD (.inl x) = .int x := rfl
end
end Pz
set_option maxRecDepth 100000
namespace Pz
open PySem PySem.Spec PyProof.Rows L2 TL PySem.W
variable [PenC]
mutual
theorem nodict_alike : ∀ {d : PyData}, alike d d = true → d.hasDict = false
  | .none, _ => rfl
  | .bool _, _ => rfl
  | .int _, _ => rfl
  | .str _, _ => rfl
  | .list xs, h => by rw [PyData.hasDict]; exact nodict_alikeAll (by simpa [alike] using h)
  | .tuple xs, h => by rw [PyData.hasDict]; exact nodict_alikeAll (by simpa [alike] using h)
  | .dict _, h => by simp [alike] at h
theorem nodict_alikeAll : ∀ {ds : List PyData}, alikeAll ds ds = true → PyData.hasDictAll ds = false
  | [], _ => rfl
  | x :: xs, h => by
    rw [alikeAll, Bool.and_eq_true] at h
    rw [PyData.hasDictAll, nodict_alike h.1, nodict_alikeAll h.2]
    rfl
end
abbrev dsort (ds : List PyData) : List PyData := ds.mergeSort (dataLe false id)
section
variable {X : Cx} {K : Frag}
def rSortedG (K : Frag) : List V → Hp → VK → Prop := fun xs H Q => ∃ (a : Addr) (vs : List V) (ds : List PyData) (W : Addr → Prop), xs = [.ref a] ∧ SqL K H a vs ∧ ImAll K W H vs ds ∧ AllAlike ds ∧ Sortable ds ∧ (∀ d ∈ ds, d.depth ≤ 50) ∧
  ∀ (ws : List V) (p : Addr), ImAll K W H ws (dsort ds) → H p = none → Q (.ref p) (upd H p (.lst ws))
theorem each_im {W : Addr → Prop} {H : Hp} {h : Heap} : ∀ {us : List Value} {ds : List PyData}, EachIs (fun u d => ∃ v, RelV v u ∧ Im K W H v d) us ds → ∃ vs, Vals vs us ∧ ImAll K W H vs ds
  | _, _, .nil => ⟨[], .nil, .nil⟩
  | _, _, .cons h t => by
    obtain ⟨v, r, i⟩ := h
    obtain ⟨vs, rs, is⟩ := each_im (h := ‹Heap›) t
    exact ⟨v :: vs, .cons r rs, .cons i is⟩
theorem im_each {W : Addr → Prop} {H : Hp} : ∀ {us : List Value} {vs : List V} {ds : List PyData}, Vals vs us → ImAll K W H vs ds → EachIs (fun u d => ∃ v, RelV v u ∧ Im K W H v d) us ds
  | _, _, _, .nil, .nil => .nil
  | _, _, _, .cons r t, .cons i is => .cons ⟨_, r, i⟩ (im_each t is)
theorem EachIs.monoM {α β : Type} {R R' : α → β → Prop} : ∀ {as : List α} {bs : List β}, (∀ a, ∀ b ∈ bs, R a b → R' a b) → EachIs R as bs → EachIs R' as bs
  | _, _, _, .nil => .nil
  | _, _, h, .cons r t => .cons (h _ _ List.mem_cons_self r) (EachIs.monoM (fun a b m => h a b (List.mem_cons_of_mem _ m)) t)
theorem cr_sortedG (hu : X.A.units + 64 < cLine) : CallR X (.builtin "sorted") (rSortedG X.K) := by
  intro pins s σ H xs us Q I r h
  obtain ⟨a, vs, ds, W, rfl, hs, hi, hal, hso, hd, q⟩ := h
  obtain ⟨its, rv, hl, hz⟩ := I.list hs
  rw [Vals.ref1 r]
  have hlen := hi.length
  have er := im_each rv hi
  have er2 : EachIs (fun v b => ∃ as, Reads s.heap v (id b) as) its ds := EachIs.monoM (fun u d m ⟨v, r, i⟩ => Dp.reads I d v u (i.dp (nodict_alike (hal d m d m))) r) er
  refine sorted_data (enc := id) (bs := ds) hl.isList er er2 (by rw [List.map_id]; exact hal) (by rw [List.map_id]; exact hso) (by rw [← hlen]; exact hz) (fun d m => by have := hd d m; simp only [id]; omega) fun out h1 h2 => ?_
  obtain ⟨ws, k1, k2⟩ := each_im (h := s.heap) h2
  obtain ⟨ep, he'⟩ := PyProof.Rows.sortedAll_at s.heap its out.toArray
  have hw : ws.length ≤ sizeLine := by rw [k1.length, h1, ← hlen]; exact hz
  exact ⟨.ref _, upd H (s.heap.objs.size + 1) (.lst ws), I.laid (t' := s.toks) (fun _ _ => PyProof.Rows.sortedAll_old) (Nat.le_succ _) ⟨hw, out, ep, k1, he'⟩, rfl, q ws _ k2 (I.hok.fresh (Nat.le_succ _))⟩
end
def fSortedG : FA := fun ss st Q => match ss with
  | [s] => match vw st s with
    | some (.list ds) => AllAlike ds ∧ Sortable ds ∧ (∀ d ∈ ds, d.depth ≤ 50) ∧ Q (.d (.list (dsort ds))) st
    | _ => False
  | _ => False
theorem cd_sortedG {K : Frag} : CallD K (rSortedG K) fSortedG := by
  intro Z vs ss Qd Q ok ra w k
  unfold fSortedG at w
  split at w
  · obtain ⟨v, rfl, r⟩ := rp1 ra
    split at w
    · rename_i ds e
      obtain ⟨a, xs, rfl, h, q⟩ := r.list ok e
      obtain ⟨w1, w2, w3, w⟩ := w
      exact ⟨a, xs, ds, Z.W, rfl, .of h, q, w1, w2, w3, fun ws p hi hp => k.newL ok hi w p hp⟩
    · exact w.elim
  · exact w.elim
theorem dsort_perm (ds : List PyData) : (dsort ds).Perm ds := List.mergeSort_perm _ _
end Pz
set_option maxRecDepth 100000
namespace Pz
open PySem PySem.Spec PyProof.Rows L2 TL PySem.W
variable [PenC]
abbrev lsort (zs : List Str) : List Str := zs.mergeSort fun a b => decide ((a.length : Int) ≤ (b.length : Int))
def rSortLen (K : Frag) : List V → Hp → VK → Prop := fun vs H Q => ∃ (a : Addr) (zs : List Str), vs = [V.ref a] ∧ SqL K H a (zs.map V.str) ∧ (∀ z ∈ zs, z.length ≤ sizeLine) ∧ ∀ p, H p = none → Q (.ref p) (upd H p (.lst ((lsort zs).map V.str)))
section
variable {X : Cx} {E : WXs} {e : Expr} {te : DE} {x : Str} {p p2 pos kp : Pos} {K : Frag} {t : TA}
def wSortLen (te : DE) : DE := fun Ed sl st Q => te Ed sl st fun s st => match vw st s with
  | some (.list ds) => ∃ zs, asStrs ds = some zs ∧ (∀ z ∈ zs, z.length ≤ 16777216) ∧ Q (.d (.list ((lsort zs).map .str))) st
  | _ => False
theorem wSortLen_ap {Ed : DX} {sl : Sls} {st : Sto} {Q : DK} : wSortLen te Ed sl st Q = (te Ed sl st fun s st => match vw st s with
  | some (.list ds) => ∃ zs, asStrs ds = some zs ∧ (∀ z ∈ zs, z.length ≤ 16777216) ∧ Q (.d (.list ((lsort zs).map .str))) st
  | _ => False) := rfl
end
end Pz
set_option maxRecDepth 100000
namespace Pz
open PySem PySem.Spec PyProof.Rows L2 TL
variable [PenC]
def KwDs (K : Frag) (w : World) (a : Addr) (kvs : List (Str × V)) : Prop := ∃ es n, K.lookup a = some ⟨.type "dict", none, .dict es n, #[]⟩ ∧ PySem.W.KeysLit w.params es.toList ∧ (a == sysModules) = false ∧
  Paired (fun (p : Str × V) (e : DictEntry) => (∃ t, e.key = .str p.1 t) ∧ RelV p.2 e.val) kvs es.toList
section
variable {X : Cx} {E : WXs} {x : Str} {p apos cpos : Pos} {e f : Expr} {ty tx : TE} {a : Addr} {kvs : List (Str × V)}
end
section
variable {X : Cx} {E : WXs} {x : Str} {p apos cpos : Pos} {e f : Expr} {ty tx : DE} {a : Addr} {kvs : List (Str × V)} {K : Frag}
def dV : V → PyData
  | .int i => .int i
  | .str z => .str z
  | .bl b => .bool b
  | _ => .none
def flV : V → Bool
  | .int _ | .str _ | .bl _ | .non => true
  | _ => false
def wGGet (kvs : List (Str × V)) (ty tx : DE) : DE := fun Ed sl st Q => ty Ed sl st fun t st => tx Ed sl st fun u st => match vw st t with
  | some (.str z) => match kvs.lookup z with
    | some v => Q (.d (dV v)) st
    | none => Q u st
  | _ => False
theorem wGGet_ap {Ed : DX} {sl : Sls} {st : Sto} {Q : DK} : wGGet kvs ty tx Ed sl st Q = (ty Ed sl st fun t st => tx Ed sl st fun u st => match vw st t with
  | some (.str z) => match kvs.lookup z with
    | some v => Q (.d (dV v)) st
    | none => Q u st
  | _ => False) := rfl
end
end Pz
set_option maxRecDepth 100000
namespace Pz
open PySem PySem.Spec PyProof.Rows L2 TL
variable [PenC]
def rMinDf (K : Frag) : List V → List V → Hp → VK → Prop := fun vs zs H Q => ∃ (a : Addr) (ns : List Int) (d : V), vs = [V.ref a] ∧ zs = [d] ∧ (SqL K H a (ns.map V.int) ∨ SqT K H a (ns.map V.int)) ∧ if ns = [] then Q d H else Q (.int (lmin ns)) H
section
variable {X : Cx} {E : WXs} {e f : Expr} {te tx : DE} {x : Str} {p pos kp : Pos} {K : Frag}
def wMinDf (te tx : DE) : DE := fun Ed sl st Q => te Ed sl st fun s st => tx Ed sl st fun u st => ∃ ns, vwJ st s = some ns ∧ if ns = [] then Q u st else Q (.d (.int (lmin ns))) st
theorem wMinDf_ap {Ed : DX} {sl : Sls} {st : Sto} {Q : DK} : wMinDf te tx Ed sl st Q = (te Ed sl st fun s st => tx Ed sl st fun u st => ∃ ns, vwJ st s = some ns ∧ if ns = [] then Q u st else Q (.d (.int (lmin ns))) st) := rfl
end
end Pz
set_option maxRecDepth 100000
namespace Pz
open PySem PySem.Spec PyProof.Rows L2 TL
variable [PenC]
section
variable {X : Cx} {E : WXs} {Z0 : Zs} {a b : Expr} {t : DA} {pos px py pt pt2 : Pos} {x y : Str} {kt k2 : Nat}
def wPar (i j : Nat) (t : DA) : DS := fun D sl st => t D.ex sl st fun ss st => match ss with
  | [a, b] => D.nx ((sl.set i (some a)).set j (some b)) st
  | _ => False
theorem wPar_ap {i j : Nat} {nx bk ct : Sls → Sto → Prop} {rt : DK} {ex : DX} {sl : Sls} {st : Sto} : wPar i j t ⟨nx, rt, ex, bk, ct⟩ sl st = t ex sl st fun ss st => match ss with
  | [a, b] => nx ((sl.set i (some a)).set j (some b)) st
  | _ => False := rfl
end
end Pz
set_option maxRecDepth 100000
namespace Pz
open PySem PySem.Spec PyProof.Rows L2 TL
variable [PenC]
def rShowW (K : Frag) : List V → Hp → VK → Prop := fun xs H Q => rShow K xs H Q ∨ ∃ (a : Addr) (ds : List PyData) (W : Addr → Prop), xs = [.ref a] ∧ Im K W H (.ref a) (.list ds) ∧ (∀ d ∈ ds, itOk d) ∧ (PyData.list ds).depth ≤ 60 ∧ (PyData.list ds).shown.length ≤ sizeLine ∧ Q (.str (PyData.list ds).shown) H
structure RepW (ds : List PyData) : Prop where
  ok : ∀ d ∈ ds, itOk d
  st : PyData.strOk (PyData.list ds).shown = true
  ln : (PyData.list ds).shown.length ≤ sizeLine
  dp : (PyData.list ds).depth ≤ 60
def RepA (d : PyData) : Prop := RepOk d ∨ ∃ ds, d = .list ds ∧ RepW ds
theorem RepA.sh {d : PyData} (h : RepA d) : SeqAt.shaped (.str d.shown) = true := by
  rcases h with h | ⟨ds, rfl, h⟩
  · exact h.sh
  · exact sh_str h.st
def fRepW : FA := fun ss st Q => match ss with
  | [.d d] => RepA d ∧ Q (.d (.str d.shown)) st
  | _ => False
section
variable {K : Frag}
def fBool : FA := fun ss st Q => match ss with
  | [s] => match vw st s with
    | some (.int i) => Q (.d (.bool (i != 0))) st
    | some (.bool b) => Q (.d (.bool b)) st
    | _ => False
  | _ => False
end
end Pz
set_option maxRecDepth 100000
namespace Pz
open PySem PySem.Spec PyProof.Rows L2 TL
variable [PenC]
def ItW (w : Nat) (d : PyData) : Prop := RepP w 10 d ∨ d = .dict []
theorem ItW.len {w : Nat} {d : PyData} (h : ItW w d) (hw : 2 ≤ w) : d.shown.length ≤ w ∧ PyData.strOk d.shown = true ∧ d.depth ≤ 10 ∧ itOk d := by
  rcases h with h | rfl
  · exact ⟨Nat.le_trans (shown_wt h.ok) h.wt, strOk_shown h.ok, h.dp, .inl h.ok⟩
  · rw [shown_dn]
    exact ⟨by rw [len_lit, show "{}".length = 2 by decide +kernel]; exact hw, strOk_lit, by decide +kernel, .inr rfl⟩
end Pz
set_option maxRecDepth 100000
namespace Pz
open PySem PySem.Spec PyProof.Rows L2 TL
variable [PenC]
section
variable {K : Frag}
def mSplitO : FM := fun s ss st Q => match ss with
  | [t] => match vw st s, vw st t with
    | some (.str a), some (.str b) => b.length ≠ 0 ∧ a.length + 2 ≤ sizeLine ∧ Q (.o st.length) (st ++ [.lst ((Txt.split a b).map .str)])
    | _, _ => False
  | _ => False
end
end Pz
set_option maxRecDepth 100000
set_option maxHeartbeats 2000000
namespace Lz
open PySem PySem.Spec PyProof.Rows L2 LamX
abbrev lamQ (X : Cx) : Str := X.env.qual ++ "<lambda>"
section
variable {X : Cx} {pins : List (Addr × Obj)} {σ : L2.St} {H : Hp} {s : Shared}
def Grown (H H1 : Hp) (P c : Addr) (q : Str) : Prop := H1 = H ∨ ∃ (ps : Array Value) (pos : Pos), H P = some (.tbl ps) ∧ TriplesOk ps.toList ∧ H c = none ∧ H1 = upd (upd H P (.tbl (ps ++ #[rawInt pos.line, rawInt pos.col, .ref c]))) c (CodeO c q)
theorem make {T : List (Addr × Str)} {c P : Addr} {params : Arguments} {body : Expr} {scope : Scope} {pos : Pos} {E Q : Value → Shared → Prop} (J : Inv X pins σ H s) (B : TabB X.base X.mg c P) (ec : X.env.code = .ref c)
    (inT : (P, lamQ X) ∈ T) (one : ∀ p ∈ T, p.1 = P → p.2 = lamQ X) (tabs : Tabs T H) (nodef : defaultsOf params X.env = ([], [])) (caps : ∀ y ∈ scope.names, y.2 = .free → ∃ z, X.env.cells.lookup y.1 = some z)
    (fin : ∀ (f d : Addr) (pm ct : Value) (H1 : Hp) (s1 : Shared), Inv X pins σ H1 s1 → Grown H H1 P d (lamQ X) → Tabs T H1 →
      s1.heap.get? f = some (PySem.W.kla_obj "<lambda>" (lamQ X) params body scope (cloFrom X.env.cells scope.names []) pm d ct) → H1 f = none → f ∉ frs X.stack → H1 d = some (CodeO d (lamQ X)) → (H d = none ∨ ∃ ps pos, H P = some (.tbl ps) ∧ codeAmong pos ps.toList = some (.ref d)) → Q (.ref f) s1) :
    wpAny (model X.prog X.w) X.A (eval (.Lambda params body scope pos) X.env) Q E s := by
  obtain ⟨ps, eP, tr, old⟩ := tabs _ inT
  dsimp only at eP old
  have bm := B.bm.keeps J.bk
  have hP : s.heap.get? P = some { cls := .none, data := .fields ps } := J.hok P _ eP
  have away : ∀ f, s.heap.objs.size ≤ f → f ∉ frs X.stack := fun f le m => by
    rcases List.mem_cons.mp (J.stkSub _ m) with e | e
    · have := J.lt
      rw [← e] at this
      exact Nat.not_lt.mpr le this
    · exact J.nofs le e
  apply PySem.W.kla_eval nodef
  cases at? : codeAmong pos ps.toList with
  | some cv =>
    obtain ⟨d, rfl, hd⟩ := old pos cv at?
    apply PySem.W.kla_makeFunctionHit (mg := X.mg) (c := c) (P := P) (ps := ps) (closure_ok caps) J.ok.glob (J.mod.glob.keeps J.bk) ec (B.code.keeps J.bk) hP tr at? bm
    intro ct h2 tk ext hsz
    refine fin h2.objs.size d ((X.mg "__name__").getD .none) ct H _ (J.kept fun b o e => Heap.get?_push_of_some _ (ext b o e)) (.inl rfl) tabs (Heap.get?_push_size _ rfl) (J.hok.fresh hsz) (away _ hsz) hd (.inr ⟨ps, pos, eP, at?⟩)
  | none =>
    apply PySem.W.kla_makeFunction (mg := X.mg) (c := c) (P := P) (ps := ps) (closure_ok caps) J.ok.glob (J.mod.glob.keeps J.bk) ec (B.code.keeps J.bk) hP tr at? B.gP bm
    rintro d ct h2 tk ext hge hlt ⟨d2, oc, vs, t, ed, q1, q2, q3⟩ htb
    cases ed
    have nd : H d = none := J.hok.fresh hge
    have big : s.heap.objs.size ≤ h2.objs.size := by omega
    have dP : P ≠ d := ne_of_none eP nd
    have J1 := inv_table (t' := tk) (more := #[rawInt pos.line, rawInt pos.col, .ref d]) (h' := h2.push (PySem.W.kla_obj "<lambda>" (lamQ X) params body scope (cloFrom X.env.cells scope.names []) ((X.mg "__name__").getD .none) d ct)) J eP
      (fun b o hb e => Heap.get?_push_of_some _ (ext b o hb e)) (Heap.get?_push_of_some _ htb) hge ⟨oc, vs, t, Heap.get?_push_of_some _ q1, q2, q3⟩
    have more : (ps ++ #[rawInt pos.line, rawInt pos.col, .ref d]).toList = ps.toList ++ [rawInt pos.line, rawInt pos.col, .ref d] := by simp
    have keep : ∀ z q, H z = some (CodeO z q) → upd (upd H P (.tbl (ps ++ #[rawInt pos.line, rawInt pos.col, .ref d]))) d (CodeO d (lamQ X)) z = some (CodeO z q) := fun z q e => by
      have zP : z ≠ P := fun y => by
        rw [y, eP] at e
        exact codeO_ne ps (Option.some.inj e).symm
      rw [upd_ne (ne_of_none e nd), upd_ne zP]
      exact e
    refine fin h2.objs.size d ((X.mg "__name__").getD .none) ct _ _ J1 (.inr ⟨ps, pos, eP, tr, nd, rfl⟩) (fun p hp => ?_) (Heap.get?_push_size _ rfl) ?_ (away _ big) upd_same (.inl nd)
    · obtain ⟨us, a1, a2, a3⟩ := tabs p hp
      by_cases hb : p.1 = P
      · rw [hb, eP] at a1
        cases a1
        rw [one p hp hb, hb]
        refine ⟨_, by rw [upd_ne dP, upd_same], by rw [more]; exact PySem.TriplesOk_snoc _ _ _ _ tr, fun p' cv hc => ?_⟩
        rw [more] at hc
        rcases among_app _ tr hc with z | z
        · obtain ⟨e0, r1, r2⟩ := old p' cv z
          exact ⟨e0, r1, keep _ _ r2⟩
        · exact ⟨d, z, upd_same⟩
      · refine ⟨us, by rw [upd_ne (ne_of_none a1 nd), upd_ne hb]; exact a1, a2, fun p' cv hc => ?_⟩
        obtain ⟨e0, r1, r2⟩ := a3 p' cv hc
        exact ⟨e0, r1, keep _ _ r2⟩
    · have m1 : h2.objs.size ≠ d := by omega
      have m2 : h2.objs.size ≠ P := Nat.ne_of_gt (Nat.lt_of_lt_of_le (Heap.lt_size hP) big)
      rw [upd_ne m1, upd_ne m2]
      exact J.hok.fresh big
end
end Lz
set_option maxRecDepth 100000
set_option maxHeartbeats 2000000
namespace Pz
open PySem PySem.Spec PyProof.Rows L2 TL Lz
variable [PenC]
abbrev LAct := (Str → List (Str × PyData) → Prop) → (PyData → Prop) → Prop
def LAct.Mono (A : LAct) : Prop := ∀ e e' k k', (∀ c fs, e c fs → e' c fs) → (∀ d, k d → k' d) → A e k → A e' k'
def wAct (i : Nat) (f : Addr) (W0 : Addr → Prop) (H0 : Hp) (A : LAct) : DE := fun Ed sl st Q => nthS sl i = some (.l f W0 H0) ∧ A (fun c fs => Ed c fs sl st) fun d => Q (.d d) st
theorem wAct_ap {i : Nat} {f : Addr} {W0 : Addr → Prop} {H0 : Hp} {A : LAct} {Ed : DX} {sl : Sls} {st : Sto} {Q : DK} : wAct i f W0 H0 A Ed sl st Q = (nthS sl i = some (.l f W0 H0) ∧ A (fun c fs => Ed c fs sl st) fun d => Q (.d d) st) := rfl
structure Acts (X : Cx) (a : Str) (f : Addr) (W0 : Addr → Prop) (H0 : Hp) (A : LAct) : Prop where
  run : ∀ (W : WXs) (pn : List (Addr × Obj)) (xe : Value → Shared → Prop) (p1 p2 : Pos), Takes (X.tr pn xe) W → DEx (X.tr pn xe) W (.Call (.Name a p1) [] [] p2) (wAct 0 f W0 H0 A)
def LamAt (base : Heap) (mg : Str → Option Value) (c : Addr) (q : Str) : Prop := ∃ P, LamX.TabB base mg c P ∧ (P, q) ∈ TabC.T ∧ ∀ p ∈ TabC.T, p.1 = P → p.2 = q
def HeardD (P : Program) (w : World) (K : Frag) (mg : Str → Option Value) (base : Heap) (k : Nat) (g : Addr) (x : Str) (st : Stmt) (N : List Str) (a : Str) (Φ : LAct → (PyData → Prop) → Prop) : Prop :=
  ∀ (cdv : Value) (A : Around) (outer : List Env) (s : Shared) (H : Hp) (E : XK) (Z0 : Zs) (f : Addr) (W0 : Addr → Prop) (H0 : Hp) (Ar : LAct), A.guards = some [] → Room k (A.deeper (envOfC x (defScope st) s.heap.objs.size g cdv)) → Z0.st.length = 0 → Ar.Mono →
    Acts (cxOf CX0 P w K mg base N x (defScope st) g cdv A outer s H E).nox a f W0 H0 Ar →
    ∃ τ : DS, DSs (cxOf CX0 P w K mg base N x (defScope st) g cdv A outer s H E).nox W0s Z0 (defBody st) τ ∧ ∀ Qd : DK, Φ Ar (fun d => Qd (.d d) []) → τ (endD 0 Qd) (startS N [.l f W0 H0]) []
where W0s : WXs := fun _ _ _ _ => False
def datO : Option Sl → Option Sl
  | some (.d x) => some (.d x)
  | some (.f ns) => some (.f ns)
  | _ => none
def datQ (k : PyData → Prop) : DK := fun s st => match s, st with
  | .d d, [] => k d
  | _, _ => False
theorem datQ_d {k : PyData → Prop} {d : PyData} : datQ k (.d d) [] = k d := rfl
def mkAct (τ : DE) (sl : Sls) : LAct := fun e k => ∃ (e0 : Str → List (Str × PyData) → Prop) (k0 : PyData → Prop), (∀ c fs, e0 c fs → e c fs) ∧ (∀ d, k0 d → k d) ∧ τ (fun c fs _ _ => e0 c fs) sl [] fun s st => Ret 0 s st (datQ k0)
def wLam (Φ : LAct → (PyData → Prop) → Prop) (τ : DE) : DE := fun Ed sl st Q => Φ (mkAct τ (sl.map datO)) fun d => Q (.d d) st
theorem wLam_ap {Φ : LAct → (PyData → Prop) → Prop} {τ : DE} {Ed : DX} {sl : Sls} {st : Sto} {Q : DK} : wLam Φ τ Ed sl st Q = Φ (mkAct τ (sl.map datO)) (fun d => Q (.d d) st) := rfl
theorem Stay.refl {W : Addr → Prop} {H : Hp} : Stay W W H H := Stay.less fun _ w => w
section
variable {K : Frag} {Z : Zs} {H1 : Hp} {P c : Addr} {q : Str}
end
section
variable {X : Cx} {E : WXs} {k : Nat} {x a : Str} {g c P : Addr} {fd : FuncData} {st : Stmt} {Ng : List Str} {Φ : LAct → (PyData → Prop) → Prop} {τ : DE} {params : Arguments} {body : Expr} {scope : Scope} {p lpos pos : Pos}
end
end Pz
set_option maxRecDepth 100000
set_option maxHeartbeats 2000000
namespace Pz
open PySem PySem.Spec PyProof.Rows L2 TL Lz
structure FunC (K : Frag) (x qual : Str) (st : Stmt) (f : Addr) (fd : FuncData) (c : Addr) : Prop where
  ex : ∃ (oc : Value) (od : Option Addr) (kV doc pm : Value) (an : Option Addr) (ct : Value) (osl : Array (Option Value)),
    fd = PySem.W.fnOf x qual (defArgs st) (defBody st) (defScope st) .none kV doc pm an (.ref c) ct ∧ K.lookup f = some ⟨oc, od, .func fd, osl⟩ ∧ PySem.W.codeIn K (.ref c) qual = true
  kp : PySem.W.keepIn K (.ref f) = true
theorem FunC.F {K : Frag} {x qual : Str} {st : Stmt} {f : Addr} {fd : FuncData} {c : Addr} (h : FunC K x qual st f fd c) : L2.Fun K x qual st f fd :=
  ⟨let ⟨oc, od, kV, doc, pm, an, ct, osl, r⟩ := h.ex; ⟨oc, od, kV, doc, pm, an, .ref c, ct, osl, r⟩, h.kp⟩
structure FAtC (K : Frag) (mg : Str → Option Value) (x : Str) (st : Stmt) (ps : List Str) (f : Addr) (fd : FuncData) (c : Addr) : Prop where
  C : FunC K x x st f fd c
  F : L2.Fun K x x st f fd
  g : mg x = some (.ref f)
  b : Binds K fd ps []
abbrev qLam (x : Str) : Str := x ++ ".<locals>." ++ "<lambda>"
section
variable [PenC]
variable {P : Program} {w : World} {K : Frag} {mg : Str → Option Value} {base : Heap} {CX : CXT} {j k : Nat} {f c : Addr} {fd : FuncData} {ps N : List Str} {sp sp' : Sp} {dsp : DSp} {x qual : Str} {st : Stmt}
end
def OnlyT (cs : List (Addr × Addr)) (H : Hp) : Prop := (∀ p ∈ cs, H p.2 = some (.tbl #[])) ∧ ∀ b, H b = none ∨ (∃ p ∈ cs, p.2 = b) ∨ ∃ o xs, H b = some (.frz o (.lst xs))
def tabIn (K : Frag) (c : Addr) : Option Addr := match K.lookup c with
  | some ⟨_, _, .fields vs, _⟩ => match (vs[11]? : Option Value) with
    | some (Value.ref P) => some P
    | _ => none
  | _ => none
def TabAtK (K : Frag) (mg : Str → Option Value) (q : Program) (p : Addr × Addr × Str) : Prop := tabIn K p.1 = some p.2.1 ∧ K.lookup p.2.1 = none ∧
  ∃ (x : Str) (f : Addr) (oc : Value) (od : Option Addr) (fd : FuncData) (osl : Array (Option Value)), (recsOf q).any (fun d => d.name == x) = true ∧ mg x = some (.ref f) ∧ K.lookup f = some ⟨oc, od, .func fd, osl⟩ ∧ fd.code = .ref p.1
theorem TabAtK.at {K : Frag} {mg mb : Str → Option Value} {q : Program} {loose : List Str} {mean : ExcName → Option Value} {h : Heap} {p : Addr × Addr × Str} (T : Top q loose mean mg mb h) (X : K.In h) (t : TabAtK K mg q p) : h.get? p.2.1 = some { cls := .none, data := .fields #[] } ∧ PySem.W.CodeHd h p.1 p.2.1 := by
  obtain ⟨h1, h2, x, f, oc, od, fd, osl, h3, h4, h5, h6⟩ := t
  obtain ⟨d, hd, hx⟩ := List.any_eq_true.mp h3
  obtain ⟨a, o, fd', c, P, e1, e2, e3, e4, e5, e6⟩ := T.tab d hd
  have hx : d.name = x := by simpa using hx
  rw [hx, h4] at e1
  cases e1
  have e7 := X _ _ h5
  rw [e2] at e7
  cases e7
  cases e3
  rw [h6] at e4
  cases e4
  have e6' := e6
  obtain ⟨⟨oo, vs, g1, g2, g3, g4⟩, g5⟩ := e6
  unfold tabIn at h1
  cases hl : K.lookup p.1 with
  | none => rw [hl] at h1; cases h1
  | some ob =>
    have e8 := X _ _ hl
    rw [g1] at e8
    cases e8
    rw [hl] at h1
    obtain ⟨oc1, od1, dt1, sl1⟩ := oo
    dsimp only at g3 h1
    subst g3
    dsimp only at h1
    rw [g4] at h1
    dsimp only at h1
    cases h1
    exact ⟨g5, PySem.W.CodeHd.of e5 e6'⟩
def LawAtT (P : Program) (w : World) (K : Frag) (CX : CXT) (k n : Nat) (x : Str) (mg : Str → Option Value) (fa : Addr) (q : Program) : Prop :=
  ∃ (cs : List (Addr × Addr × Str)) (I : PenC) (law : DSp) (fd : FuncData), I.toTabC.T = cs.map (fun p => (p.2.1, p.2.2)) ∧ (∀ p ∈ cs, TabAtK K mg q p) ∧ (∀ (s : Shared) (u : Value), BindsTo s fd ⟨[u], []⟩ [(x, u)]) ∧
    (∀ ns : List Int, ns.length ≤ n → (∀ z ∈ ns, Builtin.Int.intBits z ≤ 1048576) → law [.f ns] [] (fun s _ => s = .d (.bool true)) fun _ _ _ => False) ∧
    ∀ base : Heap, K.In base → base.Ns mainGlobals mg → (∀ p ∈ cs, LamX.TabB base mg p.1 p.2.1) → @FnD I.toTabC P w K mg base CX k fa fd [x] law
class TTC where
  tt : List (Addr × Str)
section
variable [PenC]
def rCountD (K : Frag) : V → List V → Hp → VK → Prop := fun x xs H Q => ∃ (a : Addr) (y : V) (d : PyData) (ds : List PyData), x = V.ref a ∧ xs = [y] ∧ Dp K H (V.ref a) (.list ds) ∧ Dp K H y d ∧ SeqAt.shaped (.list ds) = true ∧ SeqAt.shaped d = true ∧ Q (.int (ds.countP fun z => PyData.eqv z d : Nat)) H
def mCount : FM := fun s ss st Q => match ss with
  | [t] => match vw st s, vw st t with
    | some (.list ds), some d => SeqAt.shaped (.list ds) = true ∧ SeqAt.shaped d = true ∧ Q (.d (.int (ds.countP fun z => PyData.eqv z d : Nat))) st
    | _, _ => False
  | _ => False
def mCountS : FM := fun s ss st Q => match vw st s, ss with
  | some (.str a), [t] => match vw st t with
    | some (.str b) => Q (.d (.int (Txt.count a b))) st
    | _ => False
  | _, _ => False
end
end Pz
set_option maxRecDepth 100000
namespace Rz
open PySem PySem.Spec PyProof.Rows L2
section
variable {X : Cx} {e : Expr} {te : TE} {t : TA} {i : Nat} {x y c d : Str} {j0 j1 : Nat} {p1 p2 c0 c1 b0 apos cpos spos : Pos} {rest : List Stmt} {u : TS}
def tRepM (to te : TE) (c d : Str) : TE := fun σ H Q => to σ H fun v H1 => ∃ a, v = .str a ∧ te σ H1 fun w H2 => ∃ n : Int, w = .int n ∧ 0 ≤ n ∧ n ≤ 1000000 ∧ d.length * n.toNat ≤ sizeLine ∧ (c == Txt.mul d n) = false ∧ a.length + (a.length + 1) * (Txt.mul d n).length ≤ 16777216 ∧ Q (.str (Txt.replace a c (Txt.mul d n))) H2
end
end Rz
namespace Pz
open PySem PySem.Spec PyProof.Rows L2 TL Rz
variable [PenC]
section
variable {X : Cx} {E : WXs} {Z0 : Zs} {rest : List Stmt} {st : Stmt} {u v : DS} {e : Expr} {te to : DE} {t : DA} {i : Nat} {x c d : Str} {j0 j1 : Nat} {p1 p2 c0 c1 b0 apos cpos spos : Pos}
structure DSsT (X : Cx) (E : WXs) (Z0 : Zs) (st : List Stmt) (τ : DS) : Prop where
  run : PSsT X st (upS X.K E Z0 τ)
structure DStT (X : Cx) (E : WXs) (Z0 : Zs) (st : Stmt) (τ : DS) : Prop where
  run : PST X st (upS X.K E Z0 τ)
theorem DSs.T (h : DSs X E Z0 rest u) : DSsT X E Z0 rest u := ⟨PSsT.of h.run⟩
theorem DSt.T (h : DSt X E Z0 st u) : DStT X E Z0 st u := ⟨PST.of h.run⟩
def wRep (to te : DE) (c d : Str) : DE := fun Ed sl st Q => to Ed sl st fun s st => ∃ a, vw st s = some (.str a) ∧ te Ed sl st fun s2 st => ∃ n : Int, vw st s2 = some (.int n) ∧ 0 ≤ n ∧ n ≤ 1000000 ∧ d.length * n.toNat ≤ sizeLine ∧ (c == Txt.mul d n) = false ∧ a.length + (a.length + 1) * (Txt.mul d n).length ≤ 16777216 ∧ Q (.d (.str (Txt.replace a c (Txt.mul d n)))) st
theorem wRep_ap {Ed : DX} {sl : Sls} {st : Sto} {Q : DK} : wRep to te c d Ed sl st Q = (to Ed sl st fun s st => ∃ a, vw st s = some (.str a) ∧ te Ed sl st fun s2 st => ∃ n : Int, vw st s2 = some (.int n) ∧ 0 ≤ n ∧ n ≤ 1000000 ∧ d.length * n.toNat ≤ sizeLine ∧ (c == Txt.mul d n) = false ∧ a.length + (a.length + 1) * (Txt.mul d n).length ≤ 16777216 ∧ Q (.d (.str (Txt.replace a c (Txt.mul d n)))) st) := rfl
end
end Pz
set_option maxRecDepth 100000
set_option maxHeartbeats 1000000
namespace Zm
open PySem PySem.Spec PyProof.Rows L2
section
variable {prog : Program} {w : World} {A : Around} {E : Value → Shared → Prop} {s : Shared}
structure Src (prog : Program) (w : World) (A : Around) (it l : Addr) (S : Nat → Heap → Prop) (xs : Array Value) : Prop where
  item : ∀ {k : Nat} {x : Value} {s : Shared} {Q : Value → Shared → Prop} {E : Value → Shared → Prop}, S k s.heap → xs[k]? = some x → (∀ h', S (k + 1) h' → Heap.SameBut it s.heap h' → Q x { s with heap := h' }) → wpAny (model prog w) A (Builtin.SmallTypes.nextOf (.ref it)) Q E s
  ends : ∀ {k : Nat} {s : Shared} {Q : Value → Shared → Prop} {E : Value → Shared → Prop}, A.handled = none → S k s.heap → xs[k]? = none → (∀ h' e, Heap.ExtBut it s.heap h' → (∃ o, h'.get? e = some o ∧ o.cls = .type "StopIteration") → E (.ref e) { s with heap := h' }) → wpAny (model prog w) A (Builtin.SmallTypes.nextOf (.ref it)) Q E s
  keep : ∀ {k : Nat} {h h' : Heap}, S k h → (∀ c o, (c = it ∨ c = l) → h.get? c = some o → h'.get? c = some o) → S k h'
variable {z TI TO i1 i2 l1 l2 : Addr} {k : Nat} {xs ys : Array Value} {x y a b : Value} {S1 S2 : Nat → Heap → Prop}
abbrev mH1 (h : Heap) (l1 : Addr) : Heap := h.push { cls := .type "list_iterator", data := .fields #[.ref l1, .int 0 0] }
abbrev mH2 (h : Heap) (l1 l2 : Addr) : Heap := (mH1 h l1).push { cls := .type "tuple_iterator", data := .fields #[.ref l2, .int 0 0] }
abbrev mH3 (h : Heap) (l1 l2 : Addr) : Heap := (mH2 h l1 l2).push { cls := .type "tuple", data := .seq #[.ref h.objs.size, .ref (mH1 h l1).objs.size] }
abbrev mH4 (h : Heap) (l1 l2 : Addr) : Heap := (mH3 h l1 l2).push { cls := .type "tuple", data := .seq #[.none, .none] }
abbrev mH5 (h : Heap) (l1 l2 : Addr) : Heap := (mH4 h l1 l2).push { cls := .type "zip", data := .fields #[.none, .bool false, .bool false, .ref (mH2 h l1 l2).objs.size, .ref (mH3 h l1 l2).objs.size] }
theorem meets_new (l1 l2 : Addr) (xs ys : Array Value) :
    Meets (Builtin.«zip.__new__» ⟨[.type "zip", .ref l1, .ref l2], []⟩) (fun _ R s => s.heap.IsList l1 xs ∧ s.heap.IsTuple l2 ys ∧
      R (.ok (.ret (.ref (mH4 s.heap l1 l2).objs.size))) { s with heap := mH5 s.heap l1 l2 }) :=
  .of_wp fun prog w A R s h => by
    obtain ⟨hp, g, d, tk, os⟩ := s; obtain ⟨hl1, hl2, h⟩ := h
    have hsub := sub_zip
    have hL1 : Heap.IsList (Shared.heap ⟨hp, g, d, tk, os⟩) l1 xs := hl1
    have hL2 : Heap.IsTuple (Shared.heap ⟨hp.push { cls := .type "list_iterator", data := .fields #[.ref l1, .int 0 0] }, g, d, tk, os⟩) l2 ys := Heap.IsTuple.push hl2 _
    wp_walk using wpAny_pyIter_list hL1, wpAny_pyIter_tuple hL2
    exact ⟨_, rfl, h⟩
theorem call_new {Q : Value → Shared → Prop} (hl1 : s.heap.IsList l1 xs) (hl2 : s.heap.IsTuple l2 ys)
    (h : ∀ h', IsZip h' (s.heap.objs.size + 4) (s.heap.objs.size + 2) (s.heap.objs.size + 3) .none → IsPair h' (s.heap.objs.size + 2) (.ref s.heap.objs.size) (.ref (s.heap.objs.size + 1)) →
      IsPair h' (s.heap.objs.size + 3) .none .none → h'.IsListIter s.heap.objs.size l1 0 → h'.IsTupleIter (s.heap.objs.size + 1) l2 0 →
      (∀ c o, s.heap.get? c = some o → h'.get? c = some o) → Q (.ref (s.heap.objs.size + 4)) { s with heap := h' }) :
    wpAny (model prog w) A (call (.type "zip") [.ref l1, .ref l2]) Q E s := by
  refine callType_new F.called_zip (by decide) (F.typeCall_zip_2 _ _) (F.newCall_zip_2 _ _) (fun obj => F.args_object_init_3 obj _ _) F.entry_zip_new (meets_new l1 l2 xs ys) ⟨hl1, hl2, ?_⟩
  have n1 : (mH1 s.heap l1).objs.size = s.heap.objs.size + 1 := Heap.size_push ..
  have n2 : (mH2 s.heap l1 l2).objs.size = s.heap.objs.size + 2 := by rw [Heap.size_push, n1]
  have n3 : (mH3 s.heap l1 l2).objs.size = s.heap.objs.size + 3 := by rw [Heap.size_push, n2]
  have n4 : (mH4 s.heap l1 l2).objs.size = s.heap.objs.size + 4 := by rw [Heap.size_push, n3]
  have on : ∀ {h : Heap} {ob o : Obj} {c : Addr}, h.get? c = some o → (h.push ob).get? c = some o := fun q => Heap.get?_push_of_some _ q
  have g5 : (mH5 s.heap l1 l2).get? (mH4 s.heap l1 l2).objs.size = some _ := Heap.get?_push_size _ rfl
  have g4 : (mH5 s.heap l1 l2).get? (mH3 s.heap l1 l2).objs.size = some _ := on (Heap.get?_push_size _ rfl)
  have g3 : (mH5 s.heap l1 l2).get? (mH2 s.heap l1 l2).objs.size = some _ := on (on (Heap.get?_push_size _ rfl))
  have g2 : (mH5 s.heap l1 l2).get? (mH1 s.heap l1).objs.size = some _ := on (on (on (Heap.get?_push_size _ rfl)))
  have g1 : (mH5 s.heap l1 l2).get? s.heap.objs.size = some _ := on (on (on (on (Heap.get?_push_size _ rfl))))
  show _ ∧ _
  rw [n2, n3, n4] at g5
  rw [n1, n2] at g3
  rw [n3] at g4
  rw [n1] at g2
  rw [n4]
  exact ⟨⟨_, g5, rfl⟩, h _ g5 g3 g4 ⟨_, g1, rfl, rfl⟩ ⟨_, g2, rfl, rfl⟩ fun c o q => on (on (on (on (on q))))⟩
end
def ItM (K : PySem.W.Frag) (a b : Addr) : It :=
  ⟨fun i H => ∃ (xs ys : List V) (x y : V), SqL K H a xs ∧ SqT K H b ys ∧ xs[i]? = some x ∧ ys[i]? = some y,
    fun i H v H' => ∃ T x y, v = .ref T ∧ H T = none ∧ H' = upd H T (.tup [x, y]) ∧ (∀ xs, SqL K H a xs → xs[i]? = some x) ∧ ∀ ys, SqT K H b ys → ys[i]? = some y,
    fun i H => ∃ xs ys : List V, SqL K H a xs ∧ SqT K H b ys ∧ (xs.length ≤ i ∨ ys.length ≤ i)⟩
def iZipM (K : PySem.W.Frag) (ta : TA) : TI := fun σ H R => ta σ H fun vs H1 => ∃ a b xs ys, vs = [.ref a, .ref b] ∧ SqL K H1 a xs ∧ SqT K H1 b ys ∧ R (ItM K a b) H1
end Zm
namespace Pz
open PySem PySem.Spec PyProof.Rows L2 TL
variable [PenC]
variable {X : Cx} {E : WXs} {Z0 : Zs} {K : Frag} {t : DA} {e e2 : Expr} {p pos tpos : Pos} {elts : List Expr} {kk : Nat}
def wZipM (te : DA) : DI := fun Ed sl st Q => te Ed sl st fun ss st => match ss with
  | [.d (.list ds), .d (.tuple es)] => Q (zipD ds es) st
  | _ => False
theorem wZipM_ap {te : DA} {Ed : DX} {sl : Sls} {st : Sto} {Q : List PyData → Sto → Prop} : wZipM te Ed sl st Q = (te Ed sl st fun ss st => match ss with
  | [.d (.list ds), .d (.tuple es)] => Q (zipD ds es) st
  | _ => False) := rfl
end Pz
set_option maxRecDepth 100000
namespace Pz
open PySem PySem.Spec PyProof.Rows L2 TL PySem.W
variable [PenC]
def tLenSetT (K : Frag) (ta : TE) : TE := fun σ H Q => ta σ H fun x H1 => ∃ (l : Addr) (ks : List (Addr × List Int)), x = V.ref l ∧ SqL K H1 l (ks.map fun p => V.ref p.1) ∧ (∀ p ∈ ks, SqT K H1 p.1 (p.2.map V.int)) ∧ ks.length < 64 ∧ ∀ M : List (List Int), M.Nodup → (∀ k, k ∈ M ↔ k ∈ ks.map (·.2)) → Q (.int M.length) H1
section
variable {X : Cx} {E : WXs} {a : Expr} {ta : TE} {te : DE} {p p2 q pos : Pos} {K : Frag}
def wLenSet (te : DE) : DE := fun Ed sl st Q => te Ed sl st fun s st => match vw st s with
  | some (.list ds) => ∃ kss : List (List Int), ds = kss.map (fun k => .tuple (k.map .int)) ∧ kss.length < 64 ∧ ∀ M : List (List Int), M.Nodup → (∀ k, k ∈ M ↔ k ∈ kss) → Q (.d (.int M.length)) st
  | _ => False
theorem wLenSet_ap {Ed : DX} {sl : Sls} {st : Sto} {Q : DK} : wLenSet te Ed sl st Q = (te Ed sl st fun s st => match vw st s with
  | some (.list ds) => ∃ kss : List (List Int), ds = kss.map (fun k => .tuple (k.map .int)) ∧ kss.length < 64 ∧ ∀ M : List (List Int), M.Nodup → (∀ k, k ∈ M ↔ k ∈ kss) → Q (.d (.int M.length)) st
  | _ => False) := rfl
end
end Pz
set_option maxRecDepth 100000
namespace Pz
open PySem PySem.Spec PyProof.Rows L2 TL PySem.W
variable [PenC]
def borS : Option Sl → Option Sl
  | some (.d x) => some (.d x)
  | _ => none
def atomD : PyData → Bool
  | .int _ => true
  | .bool _ => true
  | .str _ => true
  | .none => true
  | _ => false
def wBor (i : Nat) (te : DE) : DE := fun _ sl st Q => match nthS sl i with
  | some (.o h) => match st[h]? with
    | some (.lst ds) => te (fun _ _ _ _ => False) ((sl.map borS).set i (some (.d (.list ds)))) [] fun s _ => match s with
      | .d x => atomD x = true ∧ Q (.d x) st
      | _ => False
    | _ => False
  | _ => False
theorem wBor_ap {i : Nat} {te : DE} {Ed : DX} {sl : Sls} {st : Sto} {Q : DK} : wBor i te Ed sl st Q = (match nthS sl i with
  | some (.o h) => match st[h]? with
    | some (.lst ds) => te (fun _ _ _ _ => False) ((sl.map borS).set i (some (.d (.list ds)))) [] fun s _ => match s with
      | .d x => atomD x = true ∧ Q (.d x) st
      | _ => False
    | _ => False
  | _ => False) := rfl
end Pz
set_option maxRecDepth 100000
namespace Pz
open PySem PySem.Spec PyProof.Rows L2 TL PySem.W
variable [PenC]
def gTpL (n : Nat) (gs : DGL) : DG := fun s sl st Q => match vw st s with
  | some (.list ds) => ds.length = n ∧ gs ds sl st Q
  | _ => False
theorem gTpL_ap {n : Nat} {gs : DGL} {s : Sl} {sl : Sls} {st : Sto} {Q : Sls → Sto → Prop} : gTpL n gs s sl st Q = (match vw st s with
  | some (.list ds) => ds.length = n ∧ gs ds sl st Q
  | _ => False) := rfl
end Pz
set_option maxRecDepth 100000
namespace L2
open PySem PySem.Spec PyProof.Rows
section
variable {X : Cx}
def tRevS (te : TE) : TE := fun σ H Q => te σ H fun x H1 => ∃ z, x = .str z ∧ z.length ≤ sizeLine ∧ Q (.str ⟨z.cps.toList.reverse.toArray⟩) H1
end
end L2
namespace Pz
open PySem PySem.Spec PyProof.Rows L2 TL
variable [PenC]
section
variable {X : Cx} {E : WXs} {Z0 : Zs} {a b e : Expr} {ta tb te : DE} {pos p p2 pos2 : Pos} {K : Frag}
def wTupRg (tr : DX → Sls → Sto → (Int → Int → Sto → Prop) → Prop) : DE := fun Ed sl st Q => tr Ed sl st fun i j st => RgOk i j ∧ Q (.d (.tuple (rng i (j - i).toNat))) st
theorem wTupRg_ap {tr : DX → Sls → Sto → (Int → Int → Sto → Prop) → Prop} {Ed : DX} {sl : Sls} {st : Sto} {Q : DK} : wTupRg tr Ed sl st Q = (tr Ed sl st fun i j st => RgOk i j ∧ Q (.d (.tuple (rng i (j - i).toNat))) st) := rfl
def revT (z : Str) : Str := ⟨z.cps.toList.reverse.toArray⟩
def wRevS (te : DE) : DE := fun Ed sl st Q => te Ed sl st fun s st => match vw st s with
  | some (.str z) => z.length ≤ sizeLine ∧ Q (.d (.str (revT z))) st
  | _ => False
theorem wRevS_ap {Ed : DX} {sl : Sls} {st : Sto} {Q : DK} : wRevS te Ed sl st Q = (te Ed sl st fun s st => match vw st s with
  | some (.str z) => z.length ≤ sizeLine ∧ Q (.d (.str (revT z))) st
  | _ => False) := rfl
def rInsert : V → List V → Hp → VK → Prop := fun x vs H Q => ∃ (l : Addr) (xs : List V) (i : Int) (y : V), x = .ref l ∧ vs = [.int i, y] ∧ H l = some (.lst xs) ∧ xs.length < sizeLine ∧ 0 ≤ i ∧ i < 2 ^ 63 ∧ Q .non (upd H l (.lst (xs.take i.toNat ++ [y] ++ xs.drop i.toNat)))
def mInsert : FM := fun s ss st Q => match s, ss with
  | .o h, [t, .d y] => match st[h]?, vw st t with
    | some (.lst ds), some (.int i) => ds.length < sizeLine ∧ 0 ≤ i ∧ i < 2 ^ 63 ∧ Q (.d .none) (st.set h (.lst (ds.take i.toNat ++ [y] ++ ds.drop i.toNat)))
    | _, _ => False
  | _, _ => False
def wFmt (te : DE) : DE := fun Ed sl st Q => te Ed sl st fun s st => match vw st s with
  | some (.str y) => y.length ≤ sizeLine ∧ Q (.d (.str y)) st
  | some (.int i) => i.natAbs < 10 ^ 100 ∧ Q (.d (.str (PyData.shown (.int i)))) st
  | _ => False
theorem wFmt_ap {Ed : DX} {sl : Sls} {st : Sto} {Q : DK} : wFmt te Ed sl st Q = (te Ed sl st fun s st => match vw st s with
  | some (.str y) => y.length ≤ sizeLine ∧ Q (.d (.str y)) st
  | some (.int i) => i.natAbs < 10 ^ 100 ∧ Q (.d (.str (PyData.shown (.int i)))) st
  | _ => False) := rfl
def wJs : List DE → Str → DX → Sls → Sto → (Str → Sto → Prop) → Prop
  | [], acc, _, _, st, Q => Q acc st
  | t :: ts, acc, Ed, sl, st, Q => t Ed sl st fun s st => match vw st s with
    | some (.str y) => (acc ++ y).length ≤ sizeLine ∧ wJs ts (acc ++ y) Ed sl st Q
    | _ => False
inductive DJ (X : Cx) (E : WXs) : List Expr → List DE → Prop where
  | nil : DJ X E [] []
  | cons {e : Expr} {t : DE} {es : List Expr} {ts : List DE} (h : DEx X E e t) (r : DJ X E es ts) : DJ X E (e :: es) (t :: ts)
def wJoined (ts : List DE) : DE := fun Ed sl st Q => wJs ts Str.empty Ed sl st fun y st => Q (.d (.str y)) st
theorem wJoined_ap {ts : List DE} {Ed : DX} {sl : Sls} {st : Sto} {Q : DK} : wJoined ts Ed sl st Q = wJs ts Str.empty Ed sl st fun y st => Q (.d (.str y)) st := rfl
theorem wJs_nil {acc : Str} {Ed : DX} {sl : Sls} {st : Sto} {Q : Str → Sto → Prop} : wJs [] acc Ed sl st Q = Q acc st := rfl
theorem wJs_cons {t : DE} {ts : List DE} {acc : Str} {Ed : DX} {sl : Sls} {st : Sto} {Q : Str → Sto → Prop} : wJs (t :: ts) acc Ed sl st Q = (t Ed sl st fun s st => match vw st s with
    | some (.str y) => (acc ++ y).length ≤ sizeLine ∧ wJs ts (acc ++ y) Ed sl st Q
    | _ => False) := rfl
def rIntS : List V → Hp → VK → Prop := fun xs H Q => ∃ a n, xs = [.str a] ∧ PySem.intText? a = some n ∧ a.length ≤ 640 ∧ Q (.int n) H
def fIntS : FA := fun ss st Q => match ss with
  | [s] => match vw st s with
    | some (.str z) => z.length ≤ 640 ∧ ∃ n, PySem.intText? z = some n ∧ Q (.d (.int n)) st
    | _ => False
  | _ => False
end
end Pz
set_option maxRecDepth 100000
namespace Sz
open PySem PySem.Spec PyProof.Rows L2
section
variable {prog : Program} {w : World} {A : Around} {E : Value → Shared → Prop} {s : Shared}
end
end Sz
namespace Pz
open PySem PySem.Spec PyProof.Rows L2 TL
variable [PenC]
section
variable {X : Cx} {K : Frag}
def rStrN : List V → Hp → VK → Prop := fun xs H Q => (xs = [.non] ∧ Q (.str (Str.ofString "None")) H) ∨ rStr xs H Q
def fStrN : FA := fun ss st Q => match ss with
  | [s] => match vw st s with
    | some .none => Q (.d (.str (Str.ofString "None"))) st
    | some (.int i) => i.natAbs < 10 ^ 100 ∧ Q (.d (.str (PyData.shown (.int i)))) st
    | _ => False
  | _ => False
end
def orP (o : Option Bool) (A B : Prop) : Prop := match o with
  | some b => if b = true then A else B
  | none => False
theorem orP_some {b : Bool} {A B : Prop} : orP (some b) A B = if b = true then A else B := rfl
theorem orP_none {A B : Prop} : orP none A B = False := rfl
theorem orP_str {st : Sto} {z : Str} {A B : Prop} : orP (truD st (.d (.str z))) A B = (z.length ≤ 16777216 ∧ if z.length = 0 then B else A) := by
  unfold truD
  show orP (if z.length ≤ sizeLine then some ((z.length : Int) != 0) else none) A B = _
  by_cases h : z.length ≤ sizeLine
  · rw [if_pos h, orP_some]
    have h2 : z.length ≤ 16777216 := h
    by_cases h0 : z.length = 0
    · rw [if_neg (by simp [h0]), if_pos h0]; exact propext ⟨fun q => ⟨h2, q⟩, fun q => q.2⟩
    · rw [if_pos (by simp; omega), if_neg h0]; exact propext ⟨fun q => ⟨h2, q⟩, fun q => q.2⟩
  · rw [if_neg h, orP_none]
    have h2 : ¬ z.length ≤ 16777216 := h
    exact propext ⟨fun q => q.elim, fun q => h2 q.1⟩
section
variable {ta tb : DE} {Ed : DX} {sl : Sls} {st : Sto} {Q : DK}
theorem wOrX_apS : wOrX ta tb Ed sl st Q = (ta Ed sl st fun s st => orP (truD st s) (Q s st) (tb Ed sl st Q)) := rfl
theorem wAndX_apS : wAndX ta tb Ed sl st Q = (ta Ed sl st fun s st => orP (truD st s) (tb Ed sl st Q) (Q s st)) := rfl
end
end Pz
set_option maxRecDepth 100000
namespace Pz
open PySem PySem.Spec PyProof.Rows L2 TL
variable [PenC]
section
variable {K : Frag}
def rInQ (K : Frag) (neg : Bool) : R2 := fun x y H Q => ∃ d ds, Dp K H x d ∧ Dp K H y (.tuple ds) ∧ SeqAt.shaped d = true ∧ SeqAt.shaped (.tuple ds) = true ∧ Q (.bl (if neg then !ds.any fun z => PyData.eqv z d else ds.any fun z => PyData.eqv z d)) H
def oInQ (neg : Bool) (x y : Sl) (st : Sto) (Q : DK) : Prop := match vw st x, vw st y with
  | some d, some (.tuple ds) => SeqAt.shaped d = true ∧ SeqAt.shaped (.tuple ds) = true ∧ Q (.d (.bool (if neg then !ds.any fun z => PyData.eqv z d else ds.any fun z => PyData.eqv z d))) st
  | _, _ => False
end
end Pz
namespace Pz
open PySem PySem.Spec PyProof.Rows L2 TL
variable [PenC]
def setAll : List Nat → List Sl → Sls → Sls
  | i :: is, s :: ss, sl => setAll is ss (sl.set i (some s))
  | _, _, sl => sl
structure DGn (X : Cx) (ts : List Expr) (is : List Nat) : Prop where
  run : PGs X ts fun vs σ H Q => ∃ (Z : Zs) (sl : Sls) (ss : List Sl) (Qd : Sls → Prop), Z.H = H ∧ Ok X.K Z ∧ SlOk X.K Z σ sl ∧ RpAll X.K Z vs ss ∧ ss.length = is.length ∧ Qd (setAll is ss sl) ∧ ∀ (σ' : L2.St) (sl' : Sls), SlOk X.K Z σ' sl' → Qd sl' → Q σ' Z.H
section
variable {X : Cx} {E : WXs} {Z0 : Zs} {pos : Pos} {x : Str}
def wAsgS (is : List Nat) (t : DA) : DS := fun D sl st => t D.ex sl st fun ss st => ss.length = is.length ∧ ss.length ≤ sizeLine ∧ D.nx (setAll is ss sl) st
theorem wAsgS_ap {is : List Nat} {t : DA} {nx bk ct : Sls → Sto → Prop} {rt : DK} {ex : DX} {sl : Sls} {st : Sto} : wAsgS is t ⟨nx, rt, ex, bk, ct⟩ sl st = t ex sl st fun ss st => ss.length = is.length ∧ ss.length ≤ sizeLine ∧ nx (setAll is ss sl) st := rfl
end
end Pz
set_option maxRecDepth 100000
namespace Pz
open PySem PySem.Spec PyProof.Rows L2 TL
variable [PenC]
section
variable {X : Cx} {E : WXs} {Z0 : Zs} {a b c : Expr} {t : DA} {pos px py pz pt pt2 : Pos} {x y z : Str} {kt k2 : Nat}
def wPar3 (i j l : Nat) (t : DA) : DS := fun D sl st => t D.ex sl st fun ss st => match ss with
  | [a, b, c] => D.nx (((sl.set i (some a)).set j (some b)).set l (some c)) st
  | _ => False
theorem wPar3_ap {i j l : Nat} {t : DA} {nx bk ct : Sls → Sto → Prop} {rt : DK} {ex : DX} {sl : Sls} {st : Sto} : wPar3 i j l t ⟨nx, rt, ex, bk, ct⟩ sl st = t ex sl st fun ss st => match ss with
  | [a, b, c] => nx (((sl.set i (some a)).set j (some b)).set l (some c)) st
  | _ => False := rfl
end
end Pz
set_option maxRecDepth 100000
namespace Pz
open PySem PySem.Spec PyProof.Rows L2 TL
variable [PenC]
section
variable {X : Cx} {E : WXs} {Z0 : Zs} {a b c e : Expr} {es : List Expr} {ta tb tc te : DE} {t : DA} {pos p : Pos} {x : Str} {K : Frag} {A : DT}
def wDcL (g : DG) (tt : DT) (tk te : DE) (sl : Sls) : List PyData → KD → Sto → (KD → Sto → Prop) → Prop
  | [], acc => fun st Q => Q acc st
  | d :: ds, acc => fun st Q => g (.d d) sl st fun sl2 st => tt (fun _ _ _ _ => False) sl2 st fun b st => if b = true then tk (fun _ _ _ _ => False) sl2 st fun ks st => te (fun _ _ _ _ => False) sl2 st fun s st => match keyS st ks, s with
      | some k, .d y => acc.length < sizeLine ∧ wDcL g tt tk te sl ds (putD acc k y) st Q
      | _, _ => False
    else wDcL g tt tk te sl ds acc st Q
def wDc (ω : DI) (g : DG) (tt : DT) (tk te : DE) (vs : List Nat) : DE := fun Ed sl st Q => ω Ed sl st fun ds st => wDcL g tt tk te (wipeS sl vs) ds [] st fun acc st => Q (.d (.dict (kdD acc))) st
theorem wDc_ap {ω : DI} {g : DG} {tt : DT} {tk te : DE} {vs : List Nat} {Ed : DX} {sl : Sls} {st : Sto} {Q : DK} : wDc ω g tt tk te vs Ed sl st Q = ω Ed sl st fun ds st => wDcL g tt tk te (wipeS sl vs) ds [] st fun acc st => Q (.d (.dict (kdD acc))) st := rfl
variable {elt kx tg iter : Expr} {ifs : List Expr} {scope : Scope} {own : List (Str × Nat)} {ω : DI} {is : List Nat} {g : DG} {tt : DT}
end
section
variable {X : Cx} {E : WXs} {o e f : Expr} {td ty tx : DE} {apos cpos : Pos} {K : Frag}
def dkX : Sl → Option KD
  | .d (.dict l) => unKD l
  | _ => none
def wDGet3 (td ty tx : DE) : DE := fun Ed sl st Q => td Ed sl st fun s st => (dkX s).isSome = true ∧ ty Ed sl st fun t st => tx Ed sl st fun u st => match dkX s, keyS st t with
  | some kvs, some k => match valD kvs k with
    | some d => Q (.d d) st
    | none => Q u st
  | _, _ => False
theorem wDGet3_ap {Ed : DX} {sl : Sls} {st : Sto} {Q : DK} : wDGet3 td ty tx Ed sl st Q = (td Ed sl st fun s st => (dkX s).isSome = true ∧ ty Ed sl st fun t st => tx Ed sl st fun u st => match dkX s, keyS st t with
  | some kvs, some k => match valD kvs k with
    | some d => Q (.d d) st
    | none => Q u st
  | _, _ => False) := rfl
end
end Pz
set_option maxRecDepth 100000
namespace Pz
open PySem PySem.Spec PyProof.Rows L2 TL
variable [PenC]
section
variable {X : Cx} {K : Frag}
def rIsBN : R2 := fun x y H Q => ∃ b : Bool, y = .bl b ∧ ((∃ a : Bool, x = .bl a ∧ Q (.bl (decide (a = b))) H) ∨ (x = .non ∧ Q (.bl false) H))
def oIsBN (x y : Sl) (st : Sto) (Q : DK) : Prop := match vw st x, vw st y with
  | some (.bool a), some (.bool b) => Q (.d (.bool (decide (a = b)))) st
  | some .none, some (.bool _) => Q (.d (.bool false)) st
  | _, _ => False
end
end Pz
set_option maxRecDepth 100000
namespace Pz
open PySem PySem.Spec PyProof.Rows L2 TL
variable [PenC]
section
variable {X : Cx} {E : WXs} {Z0 : Zs} {K : Frag} {e ob ix : Expr} {te to ti ta tb : DE} {pos tpos : Pos}
def oIxS (s t : Sl) (st : Sto) (Q : DK) : Prop := match s with
  | .o h => match st[h]? with
    | some (.lsS xs) => match vw st t with
      | some (.int i) => match atI xs i with
        | some x => Q x st
        | none => False
      | _ => False
    | _ => oIxE s t st Q
  | _ => oIxE s t st Q
def wSetIxO (te to ti : DE) : DS := fun D sl st => te D.ex sl st fun v st => to D.ex sl st fun o st => ti D.ex sl st fun i st => match o, i with
  | .o h, .d (.int j) => match st[h]? with
    | some (.lst ds) => match ixN ds.length j with
      | some n => D.nx sl (st.set h (.lsS ((ds.map Sl.d).set n v)))
      | none => False
    | some (.lsS xs) => match ixN xs.length j with
      | some n => D.nx sl (st.set h (.lsS (xs.set n v)))
      | none => False
    | _ => False
  | _, _ => False
def frz1 (j : Nat) (ds : List PyData) : Sl → Sl
  | .o k => if k = j then .d (.list ds) else .o k
  | s => s
def wClose (n0 i : Nat) (u : DS) : DS := fun D sl st => match nthS sl i with
  | some (.o h) => match st[h]? with
    | some (.lsS xs) => ∃ (j : Nat) (ds ys : List PyData), n0 ≤ j ∧ st[j]? = some (.lst ds) ∧ xs.map (frz1 j ds) = ys.map Sl.d ∧ (∀ c ∈ st.set h .dead, NoRef j c) ∧ u D (sl.map (frzS j ds)) ((st.set j .dead).set h (.lst ys))
    | _ => u D sl st
  | _ => u D sl st
theorem wClose_ap {n0 i : Nat} {u : DS} {nx bk ct : Sls → Sto → Prop} {rt : DK} {ex : DX} {sl : Sls} {st : Sto} : wClose n0 i u ⟨nx, rt, ex, bk, ct⟩ sl st = (match nthS sl i with
  | some (.o h) => match st[h]? with
    | some (.lsS xs) => ∃ (j : Nat) (ds ys : List PyData), n0 ≤ j ∧ st[j]? = some (.lst ds) ∧ xs.map (frz1 j ds) = ys.map Sl.d ∧ (∀ c ∈ st.set h .dead, NoRef j c) ∧ u ⟨nx, rt, ex, bk, ct⟩ (sl.map (frzS j ds)) ((st.set j .dead).set h (.lst ys))
    | _ => u ⟨nx, rt, ex, bk, ct⟩ sl st
  | _ => u ⟨nx, rt, ex, bk, ct⟩ sl st) := rfl
theorem wSetIxO_ap {te to ti : DE} {nx bk ct : Sls → Sto → Prop} {rt : DK} {ex : DX} {sl : Sls} {st : Sto} : wSetIxO te to ti ⟨nx, rt, ex, bk, ct⟩ sl st = (te ex sl st fun v st => to ex sl st fun o st => ti ex sl st fun i st => match o, i with
  | .o h, .d (.int j) => match st[h]? with
    | some (.lst ds) => match ixN ds.length j with
      | some n => nx sl (st.set h (.lsS ((ds.map Sl.d).set n v)))
      | none => False
    | some (.lsS xs) => match ixN xs.length j with
      | some n => nx sl (st.set h (.lsS (xs.set n v)))
      | none => False
    | _ => False
  | _, _ => False) := rfl
theorem oIxS_ap {s t : Sl} {st : Sto} {Q : DK} : oIxS s t st Q = (match s with
  | .o h => match st[h]? with
    | some (.lsS xs) => match vw st t with
      | some (.int i) => match atI xs i with
        | some x => Q x st
        | none => False
      | _ => False
    | _ => oIxE s t st Q
  | _ => oIxE s t st Q) := rfl
end
end Pz
set_option maxRecDepth 100000
set_option maxHeartbeats 2000000
namespace PySem
namespace Xc
open PySem.W PySem.Calls PyProof.Rows PySem.HandSPX
def iA3 (f1 f2 f3 : Str) (p1 p2 p3 p4 : Pos) : Arguments := { posonlyargs := [], args := [{ arg := "self", annotation := none, pos := p1 }, { arg := f1, annotation := none, pos := p2 }, { arg := f2, annotation := none, pos := p3 }, { arg := f3, annotation := none, pos := p4 }], vararg := none, kwonlyargs := [], kw_defaults := [], kwarg := none, defaults := [] }
def iB3 (f1 f2 f3 : Str) (q1 q2 q3 q4 r1 r2 r3 r4 s1 s2 s3 s4 : Pos) : List Stmt := [.Assign [.Attribute (.Name "self" q1) f1 q2] (.Name f1 q3) q4, .Assign [.Attribute (.Name "self" r1) f2 r2] (.Name f2 r3) r4, .Assign [.Attribute (.Name "self" s1) f3 s2] (.Name f3 s3) s4]
def iS3 (f1 f2 f3 : Str) : Scope := { kind := .function, names := [(PySem.Str.ofString "self", .local), (f1, .local), (f2, .local), (f3, .local)], isGenerator := false, isCoroutine := false, more := [] }
structure Txt3 (B newId initId : String) (bmB : List Value) (f1 f2 f3 qn : Str) (K : Frag) (C fI : Addr) : Prop where
  cls : ∃ nm q N bs bm sn sub ab col dd k0 k1 k2 k3 k5, K.lookup C = some (excClassObj nm q C N bs bm true sn sub ab col dd k0 k1 k2 k3 k5 newId) ∧ refsT bmB bm = true
  sa : findIn K (.ref C) "__setattr__" = some (some (.builtin "object.__setattr__"))
  noN1 : findIn K (.ref C) f1 = some none
  noN2 : findIn K (.ref C) f2 = some none
  noN3 : findIn K (.ref C) f3 = some none
  iC : findIn K (.ref C) "__init__" = some (some (.ref fI))
  tC : typeIn K (.ref fI) = some (.type "function")
  kC : keepIn K (.ref C) = true
  exC : subIn K (.ref C) (.type "BaseException") = some true
  tyC : typeIn K (.ref C) = some (.type "type")
  fn : ∃ (oc : Value) (od : Option Addr) (doc pm : Value) (an : Option Addr) (cdv ct : Value) (osl : Array (Option Value)) (p1 p2 p3 p4 q1 q2 q3 q4 r1 r2 r3 r4 s1 s2 s3 s4 : Pos),
    K.lookup fI = some ⟨oc, od, .func (fnOf "__init__" qn (iA3 f1 f2 f3 p1 p2 p3 p4) (iB3 f1 f2 f3 q1 q2 q3 q4 r1 r2 r3 r4 s1 s2 s3 s4) (iS3 f1 f2 f3) .none .none doc pm an cdv ct), osl⟩ ∧ codeIn K cdv qn = true
section
variable {prog : Program} {w : World} {A : Around} {E : Value → Shared → Prop} {R : Result → Shared → Prop} {hp : Heap} {g : Array GenState} {d : Drawn} {t : Nat} {os : OsState} {B newId initId ow : String} {bmB : List Value}
end
def nsM3 (f1 f2 f3 : Str) (v1 v2 v3 : Value) : Str → Option Value := fun y => if y = f3 then some v3 else if y = f2 then some v2 else if y = f1 then some v1 else none
structure InitEnd3 (h h' : Heap) (x C dx t1 : Addr) (f1 f2 f3 : Str) (v1 v2 v3 : Value) : Prop where
  keep : ∀ b o, b ≠ x → h.get? b = some o → h'.get? b = some o
  obj : h'.get? x = some { cls := .ref C, dict := some dx, data := .fields #[.ref t1, .none, .none, .none, .bool false, .none] }
  dbig : h.objs.size ≤ dx
  dne : dx ≠ x
  ns : h'.Ns1 dx (nsM3 f1 f2 f3 v1 v2 v3)
structure OwnMade3 (h h' : Heap) (e C d : Addr) (f1 f2 f3 : Str) (v1 v2 v3 : Value) : Prop where
  keep : ∀ b o, h.get? b = some o → h'.get? b = some o
  new : h.objs.size ≤ e
  obj : ∃ oe vs, h'.get? e = some oe ∧ oe.cls = .ref C ∧ oe.dict = some d ∧ oe.data = .fields vs ∧ vs[1]? = some .none
  dbig : h.objs.size ≤ d
  dne : d ≠ e
  ns : h'.Ns1 d (nsM3 f1 f2 f3 v1 v2 v3)
def InitRun3 (B newId initId : String) (bmB : List Value) (f1 f2 f3 qn : Str) (K : Frag) (C fI : Addr) : Prop := ∀ (prog : Program) (w : World) (A : Around) (R : Result → Shared → Prop) (s : Shared) (x t0 : Addr) (v1 v2 v3 : Value), Txt3 B newId initId bmB f1 f2 f3 qn K C fI → K.In s.heap → s.heap.NoLimit → s.heap.get? x = some (excO C t0) → K.lookup x = none → A.depth < recursionLimit →
    (∀ h' tk dx, InitEnd3 s.heap h' x C dx t0 f1 f2 f3 v1 v2 v3 → R (.ok (.ret .none)) { s with heap := h', toks := tk }) → codeAny (model prog w) A (.call (.ref fI) ⟨[.ref x, v1, v2, v3], []⟩) R s
section
variable {K : Frag} {C fI : Addr} {B newId initId ow : String} {bmB : List Value} {qn : Str}
end
section
variable {prog : Program} {w : World} {A : Around} {E : Value → Shared → Prop} {R : Result → Shared → Prop} {s : Shared} {K : Frag} {C fI : Addr} {B newId initId : String} {bmB : List Value} {f1 f2 f3 qn : Str}
end
end Xc
end PySem
namespace L2
open PySem PySem.Spec PyProof.Rows
def m3L (f1 f2 f3 : Str) (v1 v2 v3 : V) : List (Str × V) := [(f3, v3), (f2, v2), (f1, v1)]
section
variable {X : Cx} {C fI : Addr} {B newId initId : String} {bmB : List Value} {f1 f2 f3 qn x : Str}
def tMk3 (f1 f2 f3 : Str) (C : Addr) (ta : TA) : St → Hp → XK → Prop := fun σ H Q => ta σ H fun vs H1 => ∃ v1 v2 v3, vs = [v1, v2, v3] ∧ ∀ d, H1 d = none → Q (.ref C) (some d) (upd H1 d (.xd (m3L f1 f2 f3 v1 v2 v3)))
end
end L2
set_option maxRecDepth 100000
namespace Pz
open PySem PySem.Spec PyProof.Rows L2 TL
variable [PenC]
section
variable {X : Cx} {E : WXs} {Z0 : Zs} {x f1 f2 f3 : Str} {p pos pos' : Pos} {a b c : Expr} {t : DA} {k : Nat}
def wRaise3 (x f1 f2 f3 : Str) (t : DA) : DS := fun D sl st => t D.ex sl st fun ss st => match ss with
  | [.d y1, .d y2, .d y3] => D.ex x [(f3, y3), (f2, y2), (f1, y1)] sl st
  | _ => False
theorem wRaise3_ap {nx bk ct : Sls → Sto → Prop} {rt : DK} {ex : DX} {sl : Sls} {st : Sto} : wRaise3 x f1 f2 f3 t ⟨nx, rt, ex, bk, ct⟩ sl st = (t ex sl st fun ss st => match ss with
  | [.d y1, .d y2, .d y3] => ex x [(f3, y3), (f2, y2), (f1, y1)] sl st
  | _ => False) := rfl
def Mk3 (K : Frag) (mg : Str → Option Value) (x f1 f2 f3 : Str) : Prop := ∃ (C fI : Addr) (B newId initId : String) (bmB : List Value) (qn : Str), mg x = some (.ref C) ∧ ClsV K x (.ref C) ∧ ExcBaseFacts B newId initId bmB ∧ PySem.Xc.InitRun3 B newId initId bmB f1 f2 f3 qn K C fI ∧ PySem.Xc.Txt3 B newId initId bmB f1 f2 f3 qn K C fI
end
def Mk3K (K : Frag) (x f1 f2 f3 : Str) : Prop := ∃ (C fI : Addr) (B newId initId : String) (bmB : List Value) (qn : Str), PySem.W.nsIn K mainGlobals x = some (some (.ref C)) ∧ ExcBaseFacts B newId initId bmB ∧ PySem.Xc.InitRun3 B newId initId bmB f1 f2 f3 qn K C fI ∧ PySem.Xc.Txt3 B newId initId bmB f1 f2 f3 qn K C fI
theorem Mk3K.to {K : Frag} {h : Heap} {mg : Str → Option Value} {x f1 f2 f3 : Str} (R : Mk3K K x f1 f2 f3) (X : K.In h) (G : h.Ns mainGlobals mg) : Mk3 K mg x f1 f2 f3 := by
  obtain ⟨C, fI, B, a, b, bm, qn, e, h1, h2, h3⟩ := R
  exact ⟨C, fI, B, a, b, bm, qn, PySem.W.mg_of X G e, e, h1, h2, h3⟩
end Pz
set_option maxRecDepth 100000
set_option maxHeartbeats 2000000
namespace L2
open PySem PySem.Spec PyProof.Rows
def rRepT1 (K : PySem.W.Frag) : R2 := fun x y H Q => ∃ l xs, x = .ref l ∧ y = .int 1 ∧ SqT K H l xs ∧ Q x H
def rRepT0 (K : PySem.W.Frag) : R2 := fun x y H Q => ∃ l k xs, x = .ref l ∧ y = .int k ∧ SqT K H l xs ∧ xs ≠ [] ∧ k ≤ 0 ∧ -1000 ≤ k ∧ ∀ p, H p = none → Q (.ref p) (upd H p (.tup []))
section
variable {X : Cx}
end
end L2
namespace Pz
open PySem PySem.Spec PyProof.Rows L2 TL
variable [PenC]
def oMulT (x y : Sl) (st : Sto) (Q : DK) : Prop := match vw st x, vw st y with
  | some (.tuple a), some (.int j) => a ≠ [] ∧ -1000 ≤ j ∧ j ≤ 1000 ∧ a.length ≤ 1000 ∧ Q (.d (.tuple (List.replicate j.toNat a).flatten)) st
  | _, _ => oMul x y st Q
def rMulT (K : Frag) : R2 := fun x y H Q => rRepT K x y H Q ∨ rRepT1 K x y H Q ∨ rRepT0 K x y H Q ∨ rMul x y H Q
theorem oMulT_ap {x y : Sl} {st : Sto} {Q : DK} : oMulT x y st Q = (match vw st x, vw st y with
  | some (.tuple a), some (.int j) => a ≠ [] ∧ -1000 ≤ j ∧ j ≤ 1000 ∧ a.length ≤ 1000 ∧ Q (.d (.tuple (List.replicate j.toNat a).flatten)) st
  | _, _ => oMul x y st Q) := rfl
end Pz
set_option maxRecDepth 100000
namespace Pz
open PySem PySem.Spec PyProof.Rows L2 TL PySem.W
variable [PenC]
def DLs (h : Heap) (a : Addr) (ks vs : List V) : Prop := ∃ (o : Obj) (es : Array DictEntry) (ep : Nat), h.get? a = some o ∧ o.ExactDict ∧ o.data = .dict es ep ∧ (a == sysModules) = false ∧ Vals ks (es.toList.map (·.key)) ∧ Vals vs (es.toList.map (·.val)) ∧ es.size ≤ sizeLine
section
variable {P : Program} {w : World} {H : Hp} {h : Heap} {a : Addr} {X : Cx} {pins : List (Addr × Obj)} {σ : L2.St} {s : Shared}
theorem kv_vals {kvs : List (Key × V)} {xs : List (Key × Value)} (r : KV kvs xs) : ∀ {es : List DictEntry}, PySem.Pairs (mixKind P w) es xs → Vals (kvs.map fun p => kV p.1) (es.map (·.key)) ∧ Vals (kvs.map (·.2)) (es.map (·.val)) := by
  induction r with
  | nil => intro es p; cases p; exact ⟨.nil, .nil⟩
  | cons h _ ih =>
    intro es p
    cases p with
    | cons p1 p2 p3 =>
      obtain ⟨i1, i2⟩ := ih p3
      rename_i a b l1 l2 r0 e es'
      obtain ⟨ha, hb⟩ := h
      refine ⟨.cons ?_ i1, .cons (show RelV a.snd e.val by rw [p2]; exact hb) i2⟩
      show RelV (kV a.1) e.key
      rw [ha]
      exact relV_key (show keyIs b.1 e.key = true from p1)
theorem dls_K {kvs : List (Key × V)} (I : Inv X pins σ H s) (e : Rd H a (.dK kvs)) : DLs s.heap a (kvs.map fun p => kV p.1) (kvs.map (·.2)) := by
  have hh : L2.ObjOk X.prog X.w H s.heap a (.dK kvs) := by
    rcases e with e | ⟨o, e⟩
    · exact I.hok a _ e
    · exact (I.hok a _ e).2
  obtain ⟨z, q1, vs, kv, o, es, ep, g1, g2, g3, g4, g5, g6⟩ := hh
  obtain ⟨r1, r2⟩ := kv_vals kv g5
  have l : kvs.length = es.size := by simpa using r1.length
  exact ⟨o, es, ep, g1, g2, g3, q1, r1, r2, by omega⟩
theorem kt_vals {kvs : List (List Key × V)} {xs : List (List Key × Addr × Value)} (r : KT H kvs xs) : Vals ((xs.map fun x => V.ref x.2.1)) (xs.map fun x => Value.ref x.2.1) ∧ Vals (kvs.map (·.2)) (xs.map fun x => x.2.2) := by
  induction r with
  | nil => exact ⟨.nil, .nil⟩
  | cons h _ ih => exact ⟨.cons rfl ih.1, .cons h.2.2 ih.2⟩
theorem dls_T {kvs : List (List Key × V)} (I : Inv X pins σ H s) (e : Rd H a (.dT kvs)) : ∃ bs, L2.IsKeys H kvs bs ∧ DLs s.heap a (bs.map V.ref) (kvs.map (·.2)) := by
  have hh : L2.ObjOk X.prog X.w H s.heap a (.dT kvs) := by
    rcases e with e | ⟨o, e⟩
    · exact I.hok a _ e
    · exact (I.hok a _ e).2
  obtain ⟨z, q1, xs, kt, o, es, ep, g1, g2, g3, g5, g6⟩ := hh
  obtain ⟨r1, r2⟩ := kt_vals kt
  have l : es.size = xs.length := size_of_entries g5
  have l2 : kvs.length = xs.length := Paired.length kt
  refine ⟨xs.map fun x => x.2.1, isKeys_of kt, o, es, ep, g1, g2, g3, q1, ?_, ?_, by omega⟩
  · rw [g5, List.map_map, List.map_map]; exact r1
  · rw [g5, List.map_map]; exact r2
end
section
variable {X : Cx}
def IsDV (H : Hp) (d : Addr) (vs : List V) : Prop := (∃ kvs : List (Key × V), Rd H d (.dK kvs) ∧ vs = kvs.map (·.2)) ∨ ∃ kvs : List (List Key × V), Rd H d (.dT kvs) ∧ vs = kvs.map (·.2)
def rListV : List V → Hp → VK → Prop := fun xs H Q => ∃ (p d : Addr) (vs : List V), xs = [.ref p] ∧ H p = some (viewO "dict_values" p d) ∧ IsDV H d vs ∧ ∀ q, H q = none → Q (.ref q) (upd H q (.lst vs))
def rSumV : List V → Hp → VK → Prop := fun xs H Q => ∃ (p d : Addr) (ns : List Int), xs = [.ref p] ∧ H p = some (viewO "dict_values" p d) ∧ IsDV H d (ns.map V.int) ∧ Q (.int ns.sum) H
end
end Pz
set_option maxRecDepth 100000
namespace Pz
open PySem PySem.Spec PyProof.Rows L2 TL PySem.W
variable [PenC]
section
variable {κ : Type} [DecidableEq κ]
def valG (kvs : List (κ × PyData)) (k : κ) : Option PyData := (kvs.find? fun kv => decide (kv.1 = k)).map (·.2)
def putG (kvs : List (κ × PyData)) (k : κ) (d : PyData) : List (κ × PyData) := if (kvs.any fun kv => decide (kv.1 = k)) = true then kvs.map fun kv => if kv.1 = k then (kv.1, d) else kv else kvs ++ [(k, d)]
def ImKG (K : Frag) (W : Addr → Prop) (H : Hp) (us : List (κ × V)) (kvs : List (κ × PyData)) : Prop := us.map (·.1) = kvs.map (·.1) ∧ ImAll K W H (us.map (·.2)) (kvs.map (·.2))
variable {K : Frag} {W : Addr → Prop} {H : Hp}
theorem ImKG.nil : ImKG K W H ([] : List (κ × V)) [] := ⟨rfl, .nil⟩
theorem ImKG.inv {us : List (κ × V)} {kvs : List (κ × PyData)} (h : ImKG K W H us kvs) : (us = [] ∧ kvs = []) ∨ ∃ k v d us' kvs', us = (k, v) :: us' ∧ kvs = (k, d) :: kvs' ∧ Im K W H v d ∧ ImKG K W H us' kvs' := by
  obtain ⟨h1, h2⟩ := h
  cases us with
  | nil => cases kvs with
    | nil => exact .inl ⟨rfl, rfl⟩
    | cons _ _ => cases h1
  | cons u us => cases kvs with
    | nil => cases h1
    | cons kv kvs =>
      obtain ⟨k, v⟩ := u
      obtain ⟨k', d⟩ := kv
      simp only [List.map_cons, List.cons.injEq] at h1
      obtain ⟨rfl, h1⟩ := h1
      cases h2 with
      | cons q r => exact .inr ⟨k, v, d, us, kvs, rfl, rfl, q, h1, r⟩
theorem ImKG.cons {k : κ} {v : V} {d : PyData} {us : List (κ × V)} {kvs : List (κ × PyData)} (q : Im K W H v d) (h : ImKG K W H us kvs) : ImKG K W H ((k, v) :: us) ((k, d) :: kvs) := ⟨by rw [List.map_cons, List.map_cons, h.1], .cons q h.2⟩
theorem ImKG.app {us us' : List (κ × V)} {kvs kvs' : List (κ × PyData)} (h : ImKG K W H us kvs) (h' : ImKG K W H us' kvs') : ImKG K W H (us ++ us') (kvs ++ kvs') := ⟨by rw [List.map_append, List.map_append, h.1, h'.1], by rw [List.map_append, List.map_append]; exact h.2.append h'.2⟩
theorem ImKG.any {k : κ} : ∀ {us : List (κ × V)} {kvs : List (κ × PyData)}, ImKG K W H us kvs → (us.any fun kv => decide (kv.1 = k)) = (kvs.any fun kv => decide (kv.1 = k))
  | [], _, h => by rcases h.inv with ⟨_, rfl⟩ | ⟨_, _, _, _, _, e, _⟩; rfl; cases e
  | u :: us, _, h => by
    rcases h.inv with ⟨e, _⟩ | ⟨k', v, d, us', kvs', e, rfl, q, h'⟩
    · cases e
    · cases e
      rw [List.any_cons, List.any_cons, ImKG.any h']
theorem ImKG.val {k : κ} {d : PyData} : ∀ {us : List (κ × V)} {kvs : List (κ × PyData)}, ImKG K W H us kvs → valG kvs k = some d → ∃ v, valV us k = some v ∧ Im K W H v d
  | [], _, h, e => by rcases h.inv with ⟨_, rfl⟩ | ⟨_, _, _, _, _, e', _⟩; cases e; cases e'
  | u :: us, _, h, e => by
    rcases h.inv with ⟨e', _⟩ | ⟨k', v, d', us', kvs', e', rfl, q, h'⟩
    · cases e'
    · cases e'
      by_cases hk : k' = k
      · subst hk
        simp [valG] at e
        subst e
        exact ⟨v, by simp [valV], q⟩
      · have e2 : valG kvs' k = some d := by simpa [valG, hk] using e
        obtain ⟨v', h1, h2⟩ := ImKG.val h' e2
        exact ⟨v', by simpa [valV, hk] using h1, h2⟩
theorem ImKG.noval {k : κ} : ∀ {us : List (κ × V)} {kvs : List (κ × PyData)}, ImKG K W H us kvs → valG kvs k = none → valV us k = none
  | [], _, h, e => rfl
  | u :: us, _, h, e => by
    rcases h.inv with ⟨e', _⟩ | ⟨k', v, d', us', kvs', e', rfl, q, h'⟩
    · cases e'
    · cases e'
      by_cases hk : k' = k
      · subst hk
        simp [valG] at e
      · have e2 : valG kvs' k = none := by simpa [valG, hk] using e
        simpa [valV, hk] using ImKG.noval h' e2
theorem ImKG.mapK {k : κ} {v : V} {d : PyData} (q : Im K W H v d) : ∀ {us : List (κ × V)} {kvs : List (κ × PyData)}, ImKG K W H us kvs → ImKG K W H (us.map fun kv => if kv.1 = k then (kv.1, v) else kv) (kvs.map fun kv => if kv.1 = k then (kv.1, d) else kv)
  | [], _, h => by rcases h.inv with ⟨_, rfl⟩ | ⟨_, _, _, _, _, e', _⟩; exact .nil; cases e'
  | u :: us, _, h => by
    rcases h.inv with ⟨e', _⟩ | ⟨k', v', d', us', kvs', e', rfl, q', h'⟩
    · cases e'
    · cases e'
      have ih := ImKG.mapK (k := k) q h'
      rw [List.map_cons, List.map_cons]
      dsimp only
      split
      · exact .cons q ih
      · exact .cons q' ih
theorem ImKG.put {k : κ} {v : V} {d : PyData} (q : Im K W H v d) {us : List (κ × V)} {kvs : List (κ × PyData)} (h : ImKG K W H us kvs) : ImKG K W H (putK us k v) (putG kvs k d) := by
  unfold putK putG
  rw [h.any]
  split
  · exact h.mapK q
  · exact h.app (.cons q .nil)
theorem ImKG.len {us : List (κ × V)} {kvs : List (κ × PyData)} (h : ImKG K W H us kvs) : us.length = kvs.length := by
  have := congrArg List.length h.1
  simpa using this
theorem ImKG.tr {W' : Addr → Prop} {H' : Hp} (s : Stay W W' H H') {us : List (κ × V)} {kvs : List (κ × PyData)} (h : ImKG K W H us kvs) : ImKG K W' H' us kvs := ⟨h.1, ImAll.tr s h.2⟩
end
abbrev KTD := List (List Key × PyData)
def ktD (kvs : KTD) : List (PyData × PyData) := kvs.map fun p => (kyT p.1, p.2)
def keysL : List PyData → Option (List Key)
  | [] => some []
  | d :: r => match keyOf d, keysL r with
    | some k, some r => some (k :: r)
    | _, _ => none
def keyT : PyData → Option (List Key)
  | .tuple ds => keysL ds
  | _ => none
theorem keysL_keyD : ∀ ks : List Key, keysL (ks.map keyD) = some ks
  | [] => rfl
  | k :: r => by rw [List.map_cons, keysL, keyOf_keyD, keysL_keyD r]
theorem keyT_kyT (k : List Key) : keyT (kyT k) = some k := keysL_keyD k
def unTE : List (PyData × PyData) → Option KTD
  | [] => some []
  | (k, d) :: r => match keyT k, unTE r with
    | some k, some r => some ((k, d) :: r)
    | _, _ => none
def unKT : List (PyData × PyData) → Option KTD
  | (.none, .bool true) :: r => unTE r
  | _ => none
theorem unTE_ktD : ∀ kvs : KTD, unTE (ktD kvs) = some kvs
  | [] => rfl
  | (k, d) :: r => by
    show unTE ((kyT k, d) :: ktD r) = _
    rw [unTE, keyT_kyT, unTE_ktD r]
theorem unKT_ktD (kvs : KTD) : unKT (mkT :: ktD kvs) = some kvs := unTE_ktD kvs
section
variable {K : Frag} {W : Addr → Prop} {H : Hp} {Z : Zs}
def kyS (st : Sto) (s : Sl) : Option (List Key) := (vw st s).bind keyT
def dtAt (st : Sto) : Sl → Option KTD
  | .o h => match st[h]? with
    | some (.dT kvs) => some kvs
    | _ => none
  | .d (.dict l) => unKT l
  | _ => none
theorem dtAt_o {st : Sto} {h : Nat} : dtAt st (.o h) = (match st[h]? with
    | some (.dT kvs) => some kvs
    | _ => none) := rfl
def dkAny (st : Sto) : Sl → Option KD
  | .o h => match st[h]? with
    | some (.dK kvs) => some kvs
    | _ => none
  | .d (.dict l) => unKD l
  | _ => none
def dvAt (st : Sto) (s : Sl) : Option (List PyData) := match dkAny st s with
  | some kvs => some (kvs.map (·.2))
  | none => match dtAt st s with
    | some kvs => some (kvs.map (·.2))
    | none => none
end
theorem Rd.upd {H : Hp} {a p : Addr} {u o : HO} (h : Rd H a u) (n : H p = none) : Rd (upd H p o) a u := by
  have ne : a ≠ p := fun z => by subst z; rcases h with h | ⟨_, h⟩ <;> rw [n] at h <;> cases h
  rcases h with h | ⟨q, h⟩
  · exact .inl (by rw [upd_ne ne]; exact h)
  · exact .inr ⟨q, by rw [upd_ne ne]; exact h⟩
theorem IsDV.upd {H : Hp} {a p : Addr} {vs : List V} {o : HO} (h : IsDV H a vs) (n : H p = none) : IsDV (upd H p o) a vs := h.elim (fun ⟨k, e, q⟩ => .inl ⟨k, Rd.upd e n, q⟩) fun ⟨k, e, q⟩ => .inr ⟨k, Rd.upd e n, q⟩
section
variable {X : Cx} {E : WXs} {e : Expr} {te : DE} {td : TE} {apos cpos pos p : Pos}
def tVals (td : TE) : TE := fun σ H Q => td σ H fun x H1 => ∃ (a : Addr) (vs : List V), x = .ref a ∧ IsDV H1 a vs ∧ ∀ p, H1 p = none → Q (.ref p) (upd H1 p (viewO "dict_values" p a))
def wListV (te : DE) : DE := fun Ed sl st Q => te Ed sl st fun s st => match dvAt st s with
  | some ds => Q (.d (.list ds)) st
  | none => False
theorem wListV_ap {Ed : DX} {sl : Sls} {st : Sto} {Q : DK} : wListV te Ed sl st Q = (te Ed sl st fun s st => match dvAt st s with
  | some ds => Q (.d (.list ds)) st
  | none => False) := rfl
def wSumV (te : DE) : DE := fun Ed sl st Q => te Ed sl st fun s st => match dvAt st s with
  | some ds => ∃ ns : List Int, ds = ns.map .int ∧ Q (.d (.int ns.sum)) st
  | none => False
theorem wSumV_ap {Ed : DX} {sl : Sls} {st : Sto} {Q : DK} : wSumV te Ed sl st Q = (te Ed sl st fun s st => match dvAt st s with
  | some ds => ∃ ns : List Int, ds = ns.map .int ∧ Q (.d (.int ns.sum)) st
  | none => False) := rfl
end
end Pz
set_option maxRecDepth 100000
namespace Pz
open PySem PySem.Spec PyProof.Rows L2 TL PySem.W
variable [PenC]
section
variable {X : Cx} {E : WXs} {Z0 : Zs} {a b c e o f : Expr} {ta tb tc te ti to td ty tx : DE} {pos apos cpos : Pos} {K : Frag}
def oTGet (s t : Sl) (st : Sto) (Q : DK) : Prop := match dtAt st s, kyS st t with
  | some kvs, some k => ∃ d, valG kvs k = some d ∧ Q (.d d) st
  | _, _ => False
def dinS (st : Sto) (s t : Sl) : Option Bool := match dkAny st t with
  | some kvs => (keyS st s).map fun k => (valG kvs k).isSome
  | none => match dtAt st t with
    | some kvs => (kyS st s).map fun k => (valG kvs k).isSome
    | none => none
def wDIn (neg : Bool) (ta tb : DE) : DE := fun Ed sl st Q => ta Ed sl st fun s st => tb Ed sl st fun t st => match dinS st s t with
  | some b => Q (.d (.bool (b != neg))) st
  | none => False
theorem wDIn_ap {neg : Bool} {Ed : DX} {sl : Sls} {st : Sto} {Q : DK} : wDIn neg ta tb Ed sl st Q = (ta Ed sl st fun s st => tb Ed sl st fun t st => match dinS st s t with
  | some b => Q (.d (.bool (b != neg))) st
  | none => False) := rfl
def wTGet2 (td ty tx : DE) : DE := fun Ed sl st Q => td Ed sl st fun s st => (dtAt st s).isSome = true ∧ ty Ed sl st fun t st => tx Ed sl st fun u st => match dtAt st s, kyS st t with
  | some kvs, some k => match valG kvs k with
    | some d => Q (.d d) st
    | none => Q u st
  | _, _ => False
theorem wTGet2_ap {Ed : DX} {sl : Sls} {st : Sto} {Q : DK} : wTGet2 td ty tx Ed sl st Q = (td Ed sl st fun s st => (dtAt st s).isSome = true ∧ ty Ed sl st fun t st => tx Ed sl st fun u st => match dtAt st s, kyS st t with
  | some kvs, some k => match valG kvs k with
    | some d => Q (.d d) st
    | none => Q u st
  | _, _ => False) := rfl
def wTPut (te to ti : DE) : DS := fun D sl st => te D.ex sl st fun v st => to D.ex sl st fun o st => ti D.ex sl st fun i st => match o, v, kyS st i with
  | .o h, .d y, some k => match st[h]? with
    | some (.dT kvs) => kvs.length < sizeLine ∧ D.nx sl (st.set h (.dT (putG kvs k y)))
    | _ => False
  | _, _, _ => False
theorem wTPut_ap {nx bk ct : Sls → Sto → Prop} {rt : DK} {ex : DX} {sl : Sls} {st : Sto} : wTPut te to ti ⟨nx, rt, ex, bk, ct⟩ sl st = (te ex sl st fun v st => to ex sl st fun o st => ti ex sl st fun i st => match o, v, kyS st i with
  | .o h, .d y, some k => match st[h]? with
    | some (.dT kvs) => kvs.length < sizeLine ∧ nx sl (st.set h (.dT (putG kvs k y)))
    | _ => False
  | _, _, _ => False) := rfl
def wDAug (f : Sl → Sl → Sto → DK → Prop) (to ti te : DE) : DS := fun D sl st => to D.ex sl st fun o st => ti D.ex sl st fun i st => match o, keyS st i with
  | .o h, some k => match st[h]? with
    | some (.dK kvs) => ∃ d, valD kvs k = some d ∧ te D.ex sl st fun y st2 => st2 = st ∧ f (.d d) y st fun z st3 => match z with
      | .d z => st3 = st ∧ kvs.length < sizeLine ∧ D.nx sl (st.set h (.dK (putD kvs k z)))
      | _ => False
    | _ => False
  | _, _ => False
theorem wDAug_ap {f : Sl → Sl → Sto → DK → Prop} {nx bk ct : Sls → Sto → Prop} {rt : DK} {ex : DX} {sl : Sls} {st : Sto} : wDAug f to ti te ⟨nx, rt, ex, bk, ct⟩ sl st = (to ex sl st fun o st => ti ex sl st fun i st => match o, keyS st i with
  | .o h, some k => match st[h]? with
    | some (.dK kvs) => ∃ d, valD kvs k = some d ∧ te ex sl st fun y st2 => st2 = st ∧ f (.d d) y st fun z st3 => match z with
      | .d z => st3 = st ∧ kvs.length < sizeLine ∧ nx sl (st.set h (.dK (putD kvs k z)))
      | _ => False
    | _ => False
  | _, _ => False) := rfl
end
end Pz
set_option maxRecDepth 100000
namespace Pz
open PySem PySem.Spec PyProof.Rows L2 TL PySem.W
variable [PenC]
section
variable {X : Cx} {E : WXs} {Z0 : Zs} {K : Frag} {rest : List Stmt} {u : DS}
def wFrzL (n0 i : Nat) (u : DS) : DS := fun D sl st => match nthS sl i with
  | some (.o h) => match st[h]? with
    | some (.dK kvs) => n0 ≤ h ∧ (∀ c ∈ st, NoRef h c) ∧ u D (sl.map (frzX h (.dict (mkK :: kdD kvs)))) (st.set h .dead)
    | some (.dT kvs) => n0 ≤ h ∧ (∀ c ∈ st, NoRef h c) ∧ u D (sl.map (frzX h (.dict (mkT :: ktD kvs)))) (st.set h .dead)
    | _ => False
  | _ => u D sl st
theorem wFrzL_ap {n0 i : Nat} {u : DS} {nx bk ct : Sls → Sto → Prop} {rt : DK} {ex : DX} {sl : Sls} {st : Sto} : wFrzL n0 i u ⟨nx, rt, ex, bk, ct⟩ sl st = (match nthS sl i with
  | some (.o h) => match st[h]? with
    | some (.dK kvs) => n0 ≤ h ∧ (∀ c ∈ st, NoRef h c) ∧ u ⟨nx, rt, ex, bk, ct⟩ (sl.map (frzX h (.dict (mkK :: kdD kvs)))) (st.set h .dead)
    | some (.dT kvs) => n0 ≤ h ∧ (∀ c ∈ st, NoRef h c) ∧ u ⟨nx, rt, ex, bk, ct⟩ (sl.map (frzX h (.dict (mkT :: ktD kvs)))) (st.set h .dead)
    | _ => False
  | _ => u ⟨nx, rt, ex, bk, ct⟩ sl st) := rfl
end
end Pz
set_option maxRecDepth 100000
namespace Pz
open PySem PySem.Spec PyProof.Rows L2 TL PySem.W
variable [PenC]
def DLo (o : Obj) (ks vs : List V) : Prop := ∃ (es : Array DictEntry) (ep : Nat), o.ExactDict ∧ o.data = .dict es ep ∧ Vals ks (es.toList.map (·.key)) ∧ Vals vs (es.toList.map (·.val))
section
variable {X : Cx} {pins : List (Addr × Obj)} {σ : L2.St} {H : Hp} {s : Shared} {d : Addr} {o : Obj}
theorem dlo_of {ks vs : List V} (h : DLs s.heap d ks vs) (e : s.heap.get? d = some o) : DLo o ks vs ∧ (d == sysModules) = false := by
  obtain ⟨o', es, ep, g1, g2, g3, g4, r1, r2, _⟩ := h
  rw [e] at g1
  cases g1
  exact ⟨⟨es, ep, g2, g3, r1, r2⟩, g4⟩
theorem lk_K {kvs : List (Key × V)} (I : Inv X pins σ H s) (h : H d = some (.frz o (.dK kvs))) : s.heap.get? d = some o ∧ DLo o (kvs.map fun p => kV p.1) (kvs.map (·.2)) ∧ (d == sysModules) = false := by
  have e : s.heap.get? d = some o := (I.hok d _ h).1
  exact ⟨e, dlo_of (dls_K I (.inr ⟨o, h⟩)) e⟩
theorem lk_T {kvs : List (List Key × V)} (I : Inv X pins σ H s) (h : H d = some (.frz o (.dT kvs))) : ∃ bs, L2.IsKeys H kvs bs ∧ s.heap.get? d = some o ∧ DLo o (bs.map V.ref) (kvs.map (·.2)) ∧ (d == sysModules) = false := by
  have e : s.heap.get? d = some o := (I.hok d _ h).1
  obtain ⟨bs, q, g⟩ := dls_T I (.inr ⟨o, h⟩)
  exact ⟨bs, q, e, dlo_of g e⟩
end
def ItDV (d : Addr) (o : Obj) (u : HO) (vs : List V) : It :=
  ⟨fun i H => H d = some (.frz o u) ∧ i < vs.length, fun i H x H' => H' = H ∧ vs[i]? = some x, fun i H => H d = some (.frz o u) ∧ vs.length ≤ i⟩
def ItDI (d : Addr) (o : Obj) (u : HO) (ks vs : List V) : It :=
  ⟨fun i H => H d = some (.frz o u) ∧ i < vs.length, fun i H x H' => ∃ T k v, ks[i]? = some k ∧ vs[i]? = some v ∧ x = .ref T ∧ H T = none ∧ H' = upd H T (.tup [k, v]), fun i H => H d = some (.frz o u) ∧ vs.length ≤ i⟩
section
variable {P : Program} {w : World} {K : Frag} {d : Addr} {o : Obj} {u : HO} {ks vs : List V} {es : Array DictEntry} {ep : Nat}
theorem vals_at {f : DictEntry → Value} (hv : Vals vs (es.toList.map f)) {i : Nat} (hi : i < vs.length) : ∃ e v, es[i]? = some e ∧ vs[i]? = some v ∧ RelV v (f e) := by
  obtain ⟨x, hx, r⟩ := hv.get (List.getElem?_eq_getElem hi)
  rw [List.getElem?_map, Array.getElem?_toList] at hx
  obtain ⟨e, e1, rfl⟩ := Option.map_eq_some_iff.mp hx
  exact ⟨e, vs[i], e1, List.getElem?_eq_getElem hi, r⟩
theorem vals_sz {f : DictEntry → Value} (hv : Vals vs (es.toList.map f)) : es.size = vs.length := by simpa using hv.length.symm
theorem turn_dv {tg : Expr} (it : Addr) (hod : o.data = .dict es ep) (hv : Vals vs (es.toList.map (·.val))) : Turn P w K tg (ItDV d o u vs) [it] it (fun i h => h.get? it = some (DVw.valOb d i es.size ep)) where
  mem := List.mem_singleton.mpr rfl
  obj := fun i h st b hb => by
    rw [List.mem_singleton.mp hb]
    exact ⟨_, st, fun v z => nomatch z⟩
  keep := fun i h h' st k => k it (List.mem_singleton.mpr rfl) _ st
  item := by
    rintro X rfl rfl rfl hc i pins s σ H E I hf st ⟨hd, hi⟩
    obtain ⟨f0, f1, f2, f3, f4, f5⟩ := hf it (List.mem_singleton.mpr rfl)
    have hg : s.heap.get? d = some o := (I.hok d _ hd).1
    obtain ⟨e, v, he, hv', r⟩ := vals_at hv hi
    refine DVw.val_item st hg hod rfl he fun h' b1 sb => ?_
    refine ⟨e.val, rfl, go_of (s := { s with heap := h' }) b1 rfl rfl (by decide) ⟨v, H, I.turned (t' := s.toks) (fun b ob hb q => (sb.2 b hb).trans q) f0 f1 f3 f4 f5, r, ⟨rfl, hv'⟩, b1, fun b hb => (hf b hb).1⟩⟩
  done := by
    rintro X rfl rfl rfl hc i pins s σ H E I hf st ⟨hd, hi⟩
    obtain ⟨f0, f1, f2, f3, f4, f5⟩ := hf it (List.mem_singleton.mpr rfl)
    have hg : s.heap.get? d = some o := (I.hok d _ hd).1
    have hz := vals_sz hv
    exact DVw.val_end (I.ok.hd hc) st hg hod rfl (Array.getElem?_eq_none (by omega)) fun h' eb => ⟨rfl, I.turned (t' := s.toks) (fun b ob hb q => eb b ob hb q) f0 f1 f3 f4 f5⟩
  self := fun A i s Q E st q => wpAny_pyIter_valiter (i := i) (n := es.size) (ep := ep) (d := d) ⟨_, st, rfl, rfl⟩ q
end
section
variable {X : Cx} {E : WXs} {tg e : Expr} {td : TE} {te : DE} {apos cpos : Pos} {K : Frag}
def LkAt (H : Hp) (x : V) (d : Addr) (o : Obj) (u : HO) (vs : List V) : Prop := x = .ref d ∧ H d = some (.frz o u) ∧ ((∃ kvs : List (Key × V), u = .dK kvs ∧ vs = kvs.map (·.2)) ∨ ∃ kvs : List (List Key × V), u = .dT kvs ∧ vs = kvs.map (·.2))
def KsOf (H : Hp) (u : HO) (ks : List V) : Prop := (∃ kvs : List (Key × V), u = .dK kvs ∧ ks = kvs.map fun p => kV p.1) ∨ ∃ (kvs : List (List Key × V)) (bs : List Addr), u = .dT kvs ∧ L2.IsKeys H kvs bs ∧ ks = bs.map V.ref
theorem lkat_lo {pins : List (Addr × Obj)} {σ : L2.St} {H : Hp} {s : Shared} {x : V} {d : Addr} {o : Obj} {u : HO} {vs : List V} (I : Inv X pins σ H s) (h : LkAt H x d o u vs) : ∃ ks, s.heap.get? d = some o ∧ DLo o ks vs ∧ (d == sysModules) = false ∧ L2.IsD H d ∧ KsOf H u ks := by
  obtain ⟨_, hd, ⟨kvs, rfl, rfl⟩ | ⟨kvs, rfl, rfl⟩⟩ := h
  · obtain ⟨g1, g2, g3⟩ := lk_K I hd
    exact ⟨_, g1, g2, g3, .inl ⟨kvs, .inr ⟨o, hd⟩⟩, .inl ⟨kvs, rfl, rfl⟩⟩
  · obtain ⟨bs, hb, g1, g2, g3⟩ := lk_T I hd
    exact ⟨_, g1, g2, g3, .inr ⟨kvs, .inr ⟨o, hd⟩⟩, .inr ⟨kvs, bs, rfl, hb, rfl⟩⟩
theorem opt_keys {P : Program} {w : World} {es : List DictEntry} {us : List (Option Int × V)} {vs : List (Option Int × Value)} (r : L2.KV us vs) (h : PySem.Pairs (optKind P w) es vs) : ∃ ks, Vals ks (es.map (·.key)) := by
  clear r
  induction h with
  | nil => exact ⟨[], .nil⟩
  | @cons e0 kv0 es0 kvs0 p1 p2 p3 ih =>
    obtain ⟨ks, h⟩ := ih
    have q : nkIs (kv0.1.map Sum.inl) e0.key = true := p1
    cases hk : e0.key with
    | none => exact ⟨.non :: ks, .cons (show e0.key = .none from hk) h⟩
    | int i t => exact ⟨.int i :: ks, .cons (show ∃ t, e0.key = .int i t from ⟨t, hk⟩) h⟩
    | _ => exfalso; rw [hk] at q; cases hz : kv0.1 <;> rw [hz] at q <;> exact nomatch (show false = true from q)
theorem lk_N {X : Cx} {pins : List (Addr × Obj)} {σ : L2.St} {H : Hp} {s : Shared} {d : Addr} {o : Obj} {kvs : List (Option Int × V)} (I : Inv X pins σ H s) (h : H d = some (.frz o (NdO kvs d))) : ∃ ks, s.heap.get? d = some o ∧ DLo o ks (kvs.map (·.2)) ∧ (d == sysModules) = false ∧ s.TypeIs (.ref d) "dict" := by
  obtain ⟨e, ⟨⟨_, hs, _, vs, rel, dd⟩, _⟩⟩ := (show ObjOk X.prog X.w H s.heap d (.frz o (NdO kvs d)) from I.hok d _ h)
  obtain ⟨o', es, ep, h1, h2, h3, h4, h5, h6⟩ := id (dd X.prog X.w)
  rw [e] at h1
  cases h1
  obtain ⟨ks, hks⟩ := opt_keys rel h5
  exact ⟨ks, e, ⟨es, ep, h2, h3, hks, opt_vals rel h5⟩, hs, (dd X.prog X.w).typeIs⟩
def LkAtV (H : Hp) (x : V) (d : Addr) (o : Obj) (u : HO) (vs : List V) : Prop := LkAt H x d o u vs ∨ (x = .ref d ∧ H d = some (.frz o u) ∧ ∃ kvs : List (Option Int × V), u = NdO kvs d ∧ vs = kvs.map (·.2))
theorem LkAtV.x {H : Hp} {x : V} {d : Addr} {o : Obj} {u : HO} {vs : List V} (h : LkAtV H x d o u vs) : x = .ref d ∧ H d = some (.frz o u) := h.elim (fun q => ⟨q.1, q.2.1⟩) fun q => ⟨q.1, q.2.1⟩
theorem lkatV_lo {pins : List (Addr × Obj)} {σ : L2.St} {H : Hp} {s : Shared} {x : V} {d : Addr} {o : Obj} {u : HO} {vs : List V} (I : Inv X pins σ H s) (h : LkAtV H x d o u vs) : ∃ ks, s.heap.get? d = some o ∧ DLo o ks vs ∧ s.TypeIs (.ref d) "dict" ∧ (∀ b, Value.ref d = .ref b → ∃ ob, s.heap.get? b = some ob ∧ ob.dict = none) ∧ (d == sysModules) = false := by
  rcases h with h | ⟨_, hd, kvs, rfl, rfl⟩
  · obtain ⟨ks, g1, g2, g3, g4, _⟩ := lkat_lo I h
    obtain ⟨t1, t2, t3⟩ := L2.isD_at I g4
    exact ⟨ks, g1, g2, t1, t2, t3⟩
  · obtain ⟨ks, g1, g2, g3, g4⟩ := lk_N I hd
    obtain ⟨es, ep, q1, _⟩ := id g2
    exact ⟨ks, g1, g2, g4, fun b z => by cases z; exact ⟨o, g1, q1.2.1⟩, g3⟩
def iDV (td : TE) : TI := fun σ H R => td σ H fun x H1 => ∃ d o u vs, LkAtV H1 x d o u vs ∧ R (ItDV d o u vs) H1
theorem pi_dv (he : PE X e td) (hbase : attributeBase e "values" X.env (eval e X.env) = eval e X.env := by rfl) (hline : (apos.endLine == cpos.line) = true := by rfl) : PI X tg (.Call (.Attribute e "values" apos) [] [] cpos) (iDV td) := by
  refine ⟨fun pins s σ H R I h => ?_⟩
  refine wpAny_Call_method (T := "dict") (id := "dict.values") hbase rfl hline F.plainAttrs_dict F.slot_dict_values F.type_dict_values (thn (he.run pins s σ H _ I h) fun v s1 ⟨x, H1, I1, rx, d, o, u, vs, lk, q⟩ => ?_)
  obtain ⟨ks, hg, ⟨es, ep, g2, g3, r1, r2⟩, t1, t2, t3⟩ := lkatV_lo I1 lk
  obtain ⟨rfl, hd⟩ := lk.x
  obtain rfl : v = Value.ref d := rx
  refine ⟨t1, t2, ?_⟩
  have hr : s1.heap.DictRaw d es ep := ⟨o, hg, g2, g3⟩
  have I2 : Inv X pins σ H1 { s1 with heap := s1.heap.push { cls := .type "dict_values", data := .fields #[.ref d] } } := I1.kept (t' := s1.toks) fun b ob q => Heap.get?_push_of_some _ q
  show wpAny _ _ (callWith cpos (.builtin "dict.values") [.ref d] [] []) _ X.xe s1
  refine method_meetsIn F.slot_dict_values F.entry_dict_values rfl (PySem.evalArgs_none ⟨rfl, t1, F.args_dict_values_1 _, _, meets_dict_values_raw d t3, ⟨es, ep, hr⟩, ?_⟩)
  exact wpAny_pyIter_values_raw (es := es) (ep := ep) ⟨_, Heap.get?_push_size _ rfl, rfl, rfl⟩ (hr.push _) (pi_one (tk := s1.toks) I2 _ (turn_dv _ g3 r2) (Heap.get?_push_size _ rfl) q)
def iDI (td : TE) : TI := fun σ H R => td σ H fun x H1 => ∃ d o u vs, LkAt H1 x d o u vs ∧ ∀ ks, KsOf H1 u ks → R (ItDI d o u ks vs) H1
def lkP : Sl → Option (List (PyData × PyData))
  | .d (.dict ((.none, .bool _) :: r)) => some r
  | _ => none
theorem lkP_K {r : List (PyData × PyData)} : lkP (.d (.dict (mkK :: r))) = some r := rfl
theorem lkP_T {r : List (PyData × PyData)} : lkP (.d (.dict (mkT :: r))) = some r := rfl
theorem im_keyD {W : Addr → Prop} {H : Hp} : ∀ k : Key, Im K W H (kV k) (keyD k)
  | .inl i => .int i
  | .inr x => .str x
theorem im_keyDs {W : Addr → Prop} {H : Hp} : ∀ ks : List Key, ImAll K W H (ks.map kV) (ks.map keyD)
  | [] => .nil
  | k :: r => .cons (im_keyD k) (im_keyDs r)
theorem im_lock {Z : Zs} (ok : Ok K Z) {v : V} {s : Sl} {ps : List (PyData × PyData)} (r : Rp K Z v s) (h : lkP s = some ps) : ∃ d o u vs, LkAt Z.H v d o u vs ∧ ¬ Z.W d ∧ Z.ImAll K vs (ps.map (·.2)) ∧ ∀ ks, KsOf Z.H u ks → Z.ImAll K ks (ps.map (·.1)) := by
  unfold lkP at h
  split at h
  · rename_i b l
    cases h
    have i : Im K Z.W Z.H v (.dict ((.none, .bool b) :: ps)) := r
    generalize hx : PyData.dict ((.none, .bool b) :: ps) = x at i
    cases i with
    | dct h1 h2 h3 =>
      rename_i a us ds
      exfalso
      cases us with
      | nil => cases hx
      | cons w us =>
        cases ds with
        | nil => cases hx
        | cons d ds => obtain ⟨⟨k | k⟩, w⟩ := w <;> cases hx
    | exc _ _ _ _ _ _ => cases hx
    | dcN _ _ _ => cases hx
    | dcl h1 h2 h3 =>
      rename_i a o us ds
      cases hx
      have l : ds.length = us.length := by rw [← h3.length, List.length_map]
      refine ⟨a, o, _, _, ⟨rfl, h1, .inl ⟨us, rfl, rfl⟩⟩, h2, ?_, fun ks hk => ?_⟩
      · rw [List.map_snd_zip (by rw [List.length_map]; omega)]; exact h3
      · rw [List.map_fst_zip (by rw [List.length_map]; omega)]
        rcases hk with ⟨kvs, e, rfl⟩ | ⟨_, _, e, _⟩
        · cases e
          have := im_keyDs (K := K) (W := Z.W) (H := Z.H) (us.map (·.1))
          rwa [List.map_map, List.map_map] at this
        · cases e
    | dcT h1 h2 h3 =>
      rename_i a o us ds
      cases hx
      have l : ds.length = us.length := by rw [← h3.length, List.length_map]
      refine ⟨a, o, _, _, ⟨rfl, h1, .inr ⟨us, rfl, rfl⟩⟩, h2, ?_, fun ks hk => ?_⟩
      · rw [List.map_snd_zip (by rw [List.length_map]; omega)]; exact h3
      · rw [List.map_fst_zip (by rw [List.length_map]; omega)]
        rcases hk with ⟨_, e, _⟩ | ⟨kvs, bs, e, hb, rfl⟩
        · cases e
        · cases e
          clear h1 h2 h3 l r
          unfold L2.IsKeys at hb
          induction hb with
          | nil => exact .nil
          | @cons p b l1 l2 hp hr ih =>
            exact .cons (.tup (.inl ⟨hp, ok.tb.2.2.2 _ _ hp⟩) (im_keyDs p.1)) ih
    | _ => cases hx
  · cases h
def lkV : Sl → Option (List (PyData × PyData))
  | .d (.dict ((.none, .bool _) :: r)) => some r
  | .d (.dict ((.none, .none) :: r)) => some r
  | _ => none
theorem lkV_K {r : List (PyData × PyData)} : lkV (.d (.dict (mkK :: r))) = some r := rfl
theorem lkV_T {r : List (PyData × PyData)} : lkV (.d (.dict (mkT :: r))) = some r := rfl
theorem lkV_N {r : List (PyData × PyData)} : lkV (.d (.dict (mkN :: r))) = some r := rfl
theorem im_lockV {Z : Zs} (ok : Ok K Z) {v : V} {s : Sl} {ps : List (PyData × PyData)} (r : Rp K Z v s) (h : lkV s = some ps) : ∃ d o u vs, LkAtV Z.H v d o u vs ∧ ¬ Z.W d ∧ Z.ImAll K vs (ps.map (·.2)) := by
  unfold lkV at h
  split at h
  · rename_i b l
    cases h
    obtain ⟨d, o, u, vs, q1, q2, q3, _⟩ := im_lock (ps := ps) ok r rfl
    exact ⟨d, o, u, vs, .inl q1, q2, q3⟩
  · rename_i l
    cases h
    have i : Im K Z.W Z.H v (.dict ((.none, .none) :: ps)) := r
    generalize hx : PyData.dict ((.none, .none) :: ps) = x at i
    cases i with
    | dct h1 h2 h3 =>
      rename_i a us ds
      exfalso
      cases us with
      | nil => cases hx
      | cons w us =>
        cases ds with
        | nil => cases hx
        | cons d ds => obtain ⟨⟨k | k⟩, w⟩ := w <;> cases hx
    | dcN h1 h2 h3 =>
      rename_i a o us ds
      cases hx
      have l : ds.length = us.length := by rw [← h3.length, List.length_map]
      refine ⟨a, o, _, _, .inr ⟨rfl, h1, us, rfl, rfl⟩, h2, ?_⟩
      rw [List.map_snd_zip (by rw [List.length_map]; omega)]; exact h3
    | _ => cases hx
  · cases h
theorem itd_dv {Z1 : Zs} {d : Addr} {o : Obj} {u : HO} {vs : List V} {ds : List PyData} (hd : Z1.H d = some (.frz o u)) (nw : ¬ Z1.W d) (r : Z1.ImAll K vs ds) : ItD K (ItDV d o u vs) Z1 ds where
  go := fun Z k ok i hi => ⟨k.f _ _ hd nw, by rw [r.length]; exact hi⟩
  stop := fun Z k ok => ⟨k.f _ _ hd nw, by rw [r.length]; exact Nat.le_refl _⟩
  yld := fun Z k ok i v H' x e y => by
    obtain ⟨rfl, y⟩ := y
    obtain ⟨v', e', r'⟩ := r.get' e
    rw [y] at e'
    cases e'
    exact ⟨Z, .refl ok, ok, rfl, rfl, Im.tr k r'⟩
def wItV (te : DE) : DI := fun Ed sl st Q => te Ed sl st fun s st => match lkV s with
  | some ps => Q (ps.map (·.2)) st
  | none => False
theorem wItV_ap {Ed : DX} {sl : Sls} {st : Sto} {Q : List PyData → Sto → Prop} : wItV te Ed sl st Q = (te Ed sl st fun s st => match lkV s with
  | some ps => Q (ps.map (·.2)) st
  | none => False) := rfl
theorem di_dv (he : DEx X E e te) (hbase : attributeBase e "values" X.env (eval e X.env) = eval e X.env := by rfl) (hline : (apos.endLine == cpos.line) = true := by rfl) : DIt X E tg (.Call (.Attribute e "values" apos) [] [] cpos) (wItV te) :=
  ⟨piI (pi_dv he.run hbase hline) fun σ H R ⟨Z, sl, Rd, Ed, h, ok, so, w, k, kx⟩ => by
    refine ⟨Z, sl, _, Ed, h, ok, so, w, fun Z1 v s l1 ok1 r1 w1 => ?_, kx⟩
    dsimp only at w1
    split at w1
    · rename_i ps e
      obtain ⟨d, o, u, vs, lk, nw, r⟩ := im_lockV ok1 r1 e
      exact ⟨d, o, u, vs, lk, k Z1 _ _ l1 ok1 (itd_dv lk.x.2 nw r) w1⟩
    · exact w1.elim⟩
def wItI (te : DE) : DI := fun Ed sl st Q => te Ed sl st fun s st => match lkP s with
  | some ps => Q (ps.map fun p => .tuple [p.1, p.2]) st
  | none => False
theorem wItI_ap {Ed : DX} {sl : Sls} {st : Sto} {Q : List PyData → Sto → Prop} : wItI te Ed sl st Q = (te Ed sl st fun s st => match lkP s with
  | some ps => Q (ps.map fun p => .tuple [p.1, p.2]) st
  | none => False) := rfl
def wItK (te : DE) : DI := fun Ed sl st Q => te Ed sl st fun s st => match lkP s with
  | some ps => Q (ps.map (·.1)) st
  | none => False
theorem wItK_ap {Ed : DX} {sl : Sls} {st : Sto} {Q : List PyData → Sto → Prop} : wItK te Ed sl st Q = (te Ed sl st fun s st => match lkP s with
  | some ps => Q (ps.map (·.1)) st
  | none => False) := rfl
end
end Pz
set_option maxRecDepth 100000
namespace Pz
open PySem PySem.Spec PyProof.Rows L2 TL PySem.W
variable [PenC]
section
variable {X : Cx} {E : WXs} {ke ve : Expr} {tk tv : TE} {dk dv : DE} {pos : Pos} {K : Frag}
def tDisp1 (tk tv : TE) : TE := fun σ H Q => ∀ p, H p = none → tk σ (upd H p (.dT [])) fun x H1 => tv σ H1 fun y H2 => H2 p = some (.dT []) ∧ ∃ (k : List Key) (b : Addr), x = .ref b ∧ H2 b = some (.tup (k.map kV)) ∧ Q (.ref p) (upd H2 p (.dT [(k, y)]))
def wDisp1 (tk tv : DE) : DE := fun Ed sl st Q => tk Ed sl (st ++ [.dT []]) fun s st1 => tv Ed sl st1 fun t st2 => match kyS st2 s, t with
  | some k, .d y => st2[st.length]? = some (.dT []) ∧ Q (.o st.length) (st2.set st.length (.dT [(k, y)]))
  | _, _ => False
theorem wDisp1_ap {Ed : DX} {sl : Sls} {st : Sto} {Q : DK} : wDisp1 dk dv Ed sl st Q = (dk Ed sl (st ++ [.dT []]) fun s st1 => dv Ed sl st1 fun t st2 => match kyS st2 s, t with
  | some k, .d y => st2[st.length]? = some (.dT []) ∧ Q (.o st.length) (st2.set st.length (.dT [(k, y)]))
  | _, _ => False) := rfl
theorem key_reads2 {h : Heap} {k : Key} {u : Value} (a : L2.RelV (kV k) u) : Reads h u (keyD k) [] := by
  cases k with
  | inl i => obtain ⟨t, rfl⟩ := a; exact .int i t
  | inr x => obtain ⟨t, rfl⟩ := a; exact .str x t
theorem keys_reads2 {h : Heap} : ∀ {ks : List Key} {us : List Value}, Vals (ks.map kV) us → ReadsAll h us (ks.map keyD) []
  | [], _, r => by cases r; exact .nil
  | k :: ks, _, r => by
    cases r with
    | cons a b => exact .cons (as := []) (bs := []) (key_reads2 a) (keys_reads2 b)
theorem kyT_reads {pins : List (Addr × Obj)} {σ : L2.St} {H : Hp} {s : Shared} (I : Inv X pins σ H s) {b : Addr} {k : List Key} (e : H b = some (.tup (k.map kV))) : Reads s.heap (.ref b) (kyT k) [] := by
  obtain ⟨_, its, r, o, h1, h2, n, h3⟩ := (show L2.ObjOk X.prog X.w H s.heap b (.tup (k.map kV)) from I.hok b _ e)
  exact .tuple h1 h2 h3 (by simpa using keys_reads2 r)
def IsKy (H : Hp) (x : V) (d : PyData) : Prop := (∃ k : Key, x = kV k ∧ d = keyD k) ∨ ∃ (k : List Key) (b : Addr), x = .ref b ∧ H b = some (.tup (k.map kV)) ∧ d = kyT k
theorem IsKy.reads {pins : List (Addr × Obj)} {σ : L2.St} {H : Hp} {s : Shared} (I : Inv X pins σ H s) {x : V} {d : PyData} {u : Value} (h : IsKy H x d) (r : L2.RelV x u) : Reads s.heap u d [] := by
  rcases h with ⟨k, rfl, rfl⟩ | ⟨k, b, rfl, e, rfl⟩
  · exact key_reads2 r
  · cases r; exact kyT_reads I e
def DKy (H : Hp) (d : Addr) (kd : List PyData) : Prop := (∃ kvs : List (Key × V), Rd H d (.dK kvs) ∧ kd = kvs.map fun p => keyD p.1) ∨ ∃ kvs : List (List Key × V), Rd H d (.dT kvs) ∧ kd = kvs.map fun p => kyT p.1
def rListKy : List V → Hp → VK → Prop := fun xs H Q => ∃ (d : Addr) (kd : List PyData), xs = [.ref d] ∧ DKy H d kd ∧ ∀ q ks, H q = none → Paired (IsKy H) ks kd → Q (.ref q) (upd H q (.lst ks))
def IsV (H : Hp) (u : Value) (d : PyData) : Prop := ∃ v, L2.RelV v u ∧ IsKy H v d
def rSortKy : List V → Hp → VK → Prop := fun xs H Q => ∃ (d : Addr) (kd : List PyData), xs = [.ref d] ∧ DKy H d kd ∧ AllAlike kd ∧ (Sortable kd ∨ kd = [.tuple []]) ∧ (∀ d ∈ kd, d.depth ≤ 50) ∧ ∀ q ks, H q = none → Paired (IsKy H) ks (dsort kd) → Q (.ref q) (upd H q (.lst ks))
end
end Pz
set_option maxRecDepth 100000
namespace Pz
open PySem PySem.Spec PyProof.Rows L2 TL PySem.W
variable [PenC]
section
variable {X : Cx} {E : WXs} {e : Expr} {te : DE} {K : Frag}
def dkyS (st : Sto) (s : Sl) : Option (List PyData) := match dkAny st s with
  | some kvs => some (kvs.map fun p => keyD p.1)
  | none => match dtAt st s with
    | some kvs => some (kvs.map fun p => kyT p.1)
    | none => none
def fListKy : FA := fun ss st Q => match ss with
  | [s] => match dkyS st s with
    | some kd => Q (.d (.list kd)) st
    | none => False
  | _ => False
def fSortKy : FA := fun ss st Q => match ss with
  | [s] => match dkyS st s with
    | some kd => AllAlike kd ∧ (Sortable kd ∨ kd = [.tuple []]) ∧ (∀ d ∈ kd, d.depth ≤ 50) ∧ Q (.d (.list (dsort kd))) st
    | none => False
  | _ => False
def rLenD : List V → Hp → VK → Prop := fun xs H Q => ∃ d, xs = [.ref d] ∧ ((∃ kvs : List (Key × V), Rd H d (.dK kvs) ∧ Q (.int kvs.length) H) ∨ ∃ kvs : List (List Key × V), H d = some (.dT kvs) ∧ Q (.int kvs.length) H)
def fLenD : FA := fun ss st Q => match ss with
  | [s] => match dkAny st s with
    | some kvs => Q (.d (.int kvs.length)) st
    | none => match s with
      | .o h => match st[h]? with
        | some (.dT kvs) => Q (.d (.int kvs.length)) st
        | _ => False
      | _ => False
  | _ => False
end
section
variable {X : Cx} {E : WXs} {e : Expr} {te : DE} {K : Frag}
mutual
theorem Im.bk {W1 W2 : Addr → Prop} {H1 H2 : Hp} {a : Addr} {o : Obj} {u : HO} (hW : ∀ b, W2 b → W1 b ∨ b = a) (hH : ∀ b, b ≠ a → H2 b = H1 b) (ha : H1 a = some (.frz o u)) : ∀ {v : V} {x : PyData}, Im K W1 H1 v x → x.hasDict = false → Im K W2 H2 v x
  | _, _, .non, _ => .non
  | _, _, .bl b, _ => .bl b
  | _, _, .int i, _ => .int i
  | _, _, .str z, _ => .str z
  | _, _, .lst (a := b) q n r, h => by
    have hne : b ≠ a := fun z => by rw [z, ha] at q; cases q
    exact .lst ((hH b hne).trans q) (fun w => (hW b w).elim n hne) (ImAll.bk hW hH ha r (by simpa [PyData.hasDict] using h))
  | _, _, .tup (a := b) q r, h => by
    refine .tup ?_ (ImAll.bk hW hH ha r (by simpa [PyData.hasDict] using h))
    rcases q with ⟨q, n⟩ | q
    · have hne : b ≠ a := fun z => by rw [z, ha] at q; cases q
      exact .inl ⟨(hH b hne).trans q, fun w => (hW b w).elim n hne⟩
    · exact .inr q
  | _, _, .dct _ _ _, h => by simp [PyData.hasDict] at h
  | _, _, .dcl _ _ _, h => by simp [PyData.hasDict] at h
  | _, _, .dcT _ _ _, h => by simp [PyData.hasDict] at h
  | _, _, .dcN _ _ _, h => by simp [PyData.hasDict] at h
  | _, _, .exc _ _ _ _ _ _, h => by simp [PyData.hasDict] at h
theorem ImAll.bk {W1 W2 : Addr → Prop} {H1 H2 : Hp} {a : Addr} {o : Obj} {u : HO} (hW : ∀ b, W2 b → W1 b ∨ b = a) (hH : ∀ b, b ≠ a → H2 b = H1 b) (ha : H1 a = some (.frz o u)) : ∀ {vs : List V} {xs : List PyData}, ImAll K W1 H1 vs xs → PyData.hasDictAll xs = false → ImAll K W2 H2 vs xs
  | _, _, .nil, _ => .nil
  | _, _, .cons q r, h => by
    simp only [PyData.hasDictAll, Bool.or_eq_false_iff] at h
    exact .cons (Im.bk hW hH ha q h.1) (ImAll.bk hW hH ha r h.2)
end
def lkOf : Ct → Option PyData
  | .dK kvs => some (.dict (mkK :: kdD kvs))
  | .dT kvs => some (.dict (mkT :: ktD kvs))
  | _ => none
def wBorD (i : Nat) (te : DE) : DE := fun _ sl st Q => match nthS sl i with
  | some (.o h) => match (st[h]?).bind lkOf with
    | some x => te (fun _ _ _ _ => False) ((sl.map borS).set i (some (.d x))) [] fun s _ => match s with
      | .d x => x.hasDict = false ∧ Q (.d x) st
      | _ => False
    | _ => False
  | _ => False
theorem wBorD_ap {i : Nat} {Ed : DX} {sl : Sls} {st : Sto} {Q : DK} : wBorD i te Ed sl st Q = (match nthS sl i with
  | some (.o h) => match (st[h]?).bind lkOf with
    | some x => te (fun _ _ _ _ => False) ((sl.map borS).set i (some (.d x))) [] fun s _ => match s with
      | .d x => x.hasDict = false ∧ Q (.d x) st
      | _ => False
    | _ => False
  | _ => False) := rfl
end
end Pz
set_option maxRecDepth 100000
namespace Pz
open PySem PySem.Spec PyProof.Rows L2 TL PySem.W
variable [PenC]
section
variable {X : Cx} {E : WXs} {Z0 : Zs} {e : Expr} {es : List Expr} {t : DA} {pos p : Pos} {x : Str} {f : FD} {n k m : Nat} {N : List Str} {τ : DS}
def wDNewT : DE := fun Ed sl st Q => Q (.o st.length) (st ++ [.dT []])
theorem wDNewT_ap {Ed : DX} {sl : Sls} {st : Sto} {Q : DK} : wDNewT Ed sl st Q = Q (.o st.length) (st ++ [.dT []]) := rfl
def unD : PyData → Option Ct
  | .dict l => match unKD l with
    | some kvs => some (.dK kvs)
    | none => match unKT l with
      | some kvs => some (.dT kvs)
      | none => none
  | _ => none
theorem unD_K (kvs : KD) : unD (.dict (kdD kvs)) = some (.dK kvs) := by
  unfold unD
  dsimp only
  rw [unKD_kdD]
theorem unD_T (kvs : KTD) : unD (.dict (mkT :: ktD kvs)) = some (.dT kvs) := by
  unfold unD
  dsimp only
  rw [show unKD (mkT :: ktD kvs) = none from rfl, unKT_ktD]
def spFD (f : FD) : DSp := fun ss cs Q Ed => cs = [] ∧ f ss fun d => match unD d with
  | some c => Q (.o 0) [c]
  | none => False
def aFD (f : FD) (ss : List Sl) (st : Sto) (Q : DK) : Prop := f ss fun d => match unD d with
  | some c => Q (.o st.length) (st ++ [c])
  | none => False
def wCallFD (f : FD) (t : DA) : DE := fun Ed sl st Q => t Ed sl st fun ss st => aFD f ss st Q
theorem wCallFD_ap {f : FD} {t : DA} {Ed : DX} {sl : Sls} {st : Sto} {Q : DK} : wCallFD f t Ed sl st Q = (t Ed sl st fun ss st => aFD f ss st Q) := rfl
variable {fa : Addr} {fd : FuncData} {ps : List Str}
end
section
variable {st : Sto} {s : Sl} {h : Nat} {kvs : KD} {kts : KTD} {ds : List PyData}
theorem kyS_t : kyS st (.d (.tuple ds)) = keysL ds := rfl
theorem keysL_nil : keysL [] = some [] := rfl
theorem keysL_ci {i : Int} {r : List PyData} : keysL (.int i :: r) = (keysL r).map (Sum.inl i :: ·) := by
  rw [keysL]
  cases keysL r <;> rfl
theorem keysL_cs {z : Str} {r : List PyData} : keysL (.str z :: r) = (keysL r).map (Sum.inr z :: ·) := by
  rw [keysL]
  cases keysL r <;> rfl
theorem dtAt_L : dtAt st (.d (.dict (mkT :: ktD kts))) = some kts := unKT_ktD kts
theorem dkAny_o : dkAny st (.o h) = (match st[h]? with
  | some (.dK kvs) => some kvs
  | _ => none) := rfl
theorem dkAny_D : dkAny st (.d (.dict (kdD kvs))) = some kvs := unKD_kdD kvs
theorem dkAny_L : dkAny st (.d (.dict (mkK :: kdD kvs))) = some kvs := unKD_loc kvs
theorem dvAt_o : dvAt st (.o h) = (match st[h]? with
  | some (.dK kvs) => some (kvs.map (·.2))
  | some (.dT kvs) => some (kvs.map (·.2))
  | _ => none) := by
  unfold dvAt
  rw [dkAny_o, dtAt_o]
  cases st[h]? with
  | none => rfl
  | some c => cases c <;> rfl
theorem dvAt_D : dvAt st (.d (.dict (kdD kvs))) = some (kvs.map (·.2)) := by unfold dvAt; rw [dkAny_D]
theorem dvAt_L : dvAt st (.d (.dict (mkK :: kdD kvs))) = some (kvs.map (·.2)) := by unfold dvAt; rw [dkAny_L]
theorem dvAt_T : dvAt st (.d (.dict (mkT :: ktD kts))) = some (kts.map (·.2)) := by unfold dvAt; rw [show dkAny st (.d (.dict (mkT :: ktD kts))) = none from rfl, dtAt_L]
theorem dkyS_o : dkyS st (.o h) = (match st[h]? with
  | some (.dK kvs) => some (kvs.map fun p => keyD p.1)
  | some (.dT kvs) => some (kvs.map fun p => kyT p.1)
  | _ => none) := by
  unfold dkyS
  rw [dkAny_o, dtAt_o]
  cases st[h]? with
  | none => rfl
  | some c => cases c <;> rfl
theorem dkyS_D : dkyS st (.d (.dict (kdD kvs))) = some (kvs.map fun p => keyD p.1) := by unfold dkyS; rw [dkAny_D]
theorem dkyS_L : dkyS st (.d (.dict (mkK :: kdD kvs))) = some (kvs.map fun p => keyD p.1) := by unfold dkyS; rw [dkAny_L]
theorem dkyS_T : dkyS st (.d (.dict (mkT :: ktD kts))) = some (kts.map fun p => kyT p.1) := by unfold dkyS; rw [show dkAny st (.d (.dict (mkT :: ktD kts))) = none from rfl, dtAt_L]
theorem dinS_o : dinS st s (.o h) = (match st[h]? with
  | some (.dK kvs) => (keyS st s).map fun k => (valG kvs k).isSome
  | some (.dT kvs) => (kyS st s).map fun k => (valG kvs k).isSome
  | _ => none) := by
  unfold dinS
  rw [dkAny_o, dtAt_o]
  cases st[h]? with
  | none => rfl
  | some c => cases c <;> rfl
theorem dinS_D : dinS st s (.d (.dict (kdD kvs))) = (keyS st s).map fun k => (valG kvs k).isSome := by unfold dinS; rw [dkAny_D]
theorem dinS_L : dinS st s (.d (.dict (mkK :: kdD kvs))) = (keyS st s).map fun k => (valG kvs k).isSome := by unfold dinS; rw [dkAny_L]
theorem dinS_T : dinS st s (.d (.dict (mkT :: ktD kts))) = (kyS st s).map fun k => (valG kts k).isSome := by unfold dinS; rw [show dkAny st (.d (.dict (mkT :: ktD kts))) = none from rfl, dtAt_L]
theorem fLenD_o {Q : DK} : fLenD [.o h] st Q = (match st[h]? with
  | some (.dK kvs) => Q (.d (.int kvs.length)) st
  | some (.dT kvs) => Q (.d (.int kvs.length)) st
  | _ => False) := by
  unfold fLenD
  dsimp only
  rw [dkAny_o]
  cases st[h]? with
  | none => rfl
  | some c => cases c <;> rfl
theorem ret1_dT {C : KTD} {st : Sto} {Q : DK} : Ret 0 (.o 0) (.dT C :: st) Q = Q (.o 0) [.dT C] := by simp [Ret, Ct.live, Cl]
theorem cl_dt {n : Nat} {kvs : KTD} : Cl n (.dT kvs) = True := rfl
theorem lkOf_K : lkOf (.dK kvs) = some (.dict (mkK :: kdD kvs)) := rfl
theorem lkOf_T : lkOf (.dT kts) = some (.dict (mkT :: ktD kts)) := rfl
theorem xor_f {b : Bool} : (b != false) = b := by cases b <;> rfl
theorem xor_t {b : Bool} : (b != true) = !b := by cases b <;> rfl
theorem hasD_int {i : Int} : (PyData.int i).hasDict = false := rfl
end
end Pz
set_option maxRecDepth 100000
namespace Pz
open PySem PySem.Spec PyProof.Rows L2 TL PySem.W
variable [PenC]
def oLtS (x y : Sl) (st : Sto) (Q : DK) : Prop := match vw st x, vw st y with
  | some (.str a), some (.str b) => Q (.d (.bool (decide (tl a < tl b)))) st
  | _, _ => False
def oLtT (x y : Sl) (st : Sto) (Q : DK) : Prop := match vw st x, vw st y with
  | some (.tuple a), some (.tuple b) => match asInts a, asInts b with
    | some ns, some ms => Q (.d (.bool (HT.lexLt ns ms))) st
    | _, _ => False
  | _, _ => False
end Pz
set_option maxRecDepth 100000
namespace Pz
open PySem PySem.Spec PyProof.Rows L2 TL PySem.W
variable [PenC]
section
variable {X : Cx} {E : WXs}
def wItC (ds : List PyData) : DI := fun Ed sl st Q => Q ds st
theorem wItC_ap {ds : List PyData} {Ed : DX} {sl : Sls} {st : Sto} {Q : List PyData → Sto → Prop} : wItC ds Ed sl st Q = Q ds st := rfl
end
end Pz
set_option maxRecDepth 100000
namespace Pz
open PySem PySem.Spec PyProof.Rows L2 TL
variable [PenC]
section
variable {X : Cx} {E : WXs} {k n m : Nat} {fa : Addr} {fd : FuncData} {ps ks : List Str} {f : FDX} {x : Str} {p pos : Pos} {e : Expr} {es : List Expr} {t tk : DA} {kws : List Keyword} {gS : List Sl → List Sl → List Sl}
def wCallXE (n m : Nat) (f : FDX) (g : List Sl → List Sl → List Sl) (t tk : DA) : DE := fun Ed sl st Q => t Ed sl st fun ss st => tk Ed sl st fun zs st => ss.length = n ∧ zs.length = m ∧ f (g ss zs) (fun d => Q (.d d) st) fun c fs => Ed c fs sl st
theorem wCallXE_ap {g : List Sl → List Sl → List Sl} {Ed : DX} {sl : Sls} {st : Sto} {Q : DK} : wCallXE n m f g t tk Ed sl st Q = (t Ed sl st fun ss st => tk Ed sl st fun zs st => ss.length = n ∧ zs.length = m ∧ f (g ss zs) (fun d => Q (.d d) st) fun c fs => Ed c fs sl st) := rfl
end
end Pz
set_option maxRecDepth 100000
set_option maxHeartbeats 2000000
namespace L2
open PySem PySem.Spec PyProof PyProof.Rows PySem.W
section
variable {X : Cx} {pins : List (Addr × Obj)} {σ : St} {H : Hp} {s : Shared} {a b : Addr} {r : Value} {d : V} {k : List L2.Key} {A : Around} {E : Value → Shared → Prop}
end
def tDSetdT (td ty tx : TE) : TE := fun σ H Q => td σ H fun x H1 => ∃ a, x = .ref a ∧ IsD H1 a ∧ ty σ H1 fun y H2 => tx σ H2 fun z H3 => ∃ (kvs : List (List L2.Key × V)) (k : List L2.Key) (b : Addr), H3 a = some (.dT kvs) ∧ y = .ref b ∧ H3 b = some (.tup (k.map kV)) ∧ kvs.length < sizeLine ∧
  (∀ v, valV kvs k = some v → Q v H3) ∧ (valV kvs k = none → Q z (upd H3 a (.dT (putK kvs k z))))
section
variable {X : Cx} {o e f : Expr} {td ty tx : TE} {apos cpos : Pos}
end
end L2
set_option maxRecDepth 100000
namespace Pz
open PySem PySem.Spec PyProof.Rows L2 TL PySem.W
variable [PenC]
section
variable {X : Cx} {E : WXs} {td ty tx : DE} {o e f : Expr} {apos cpos : Pos}
def wTSetd (td ty tx : DE) : DE := fun Ed sl st Q => td Ed sl st fun s st => (dtAt st s).isSome = true ∧ ty Ed sl st fun t st => tx Ed sl st fun u st => match s, u, kyS st t with
  | .o h, .d y, some k => match st[h]? with
    | some (.dT kvs) => kvs.length < sizeLine ∧ match valG kvs k with
      | some d => Q (.d d) st
      | none => Q (.d y) (st.set h (.dT (putG kvs k y)))
    | _ => False
  | _, _, _ => False
theorem wTSetd_ap {Ed : DX} {sl : Sls} {st : Sto} {Q : DK} : wTSetd td ty tx Ed sl st Q = (td Ed sl st fun s st => (dtAt st s).isSome = true ∧ ty Ed sl st fun t st => tx Ed sl st fun u st => match s, u, kyS st t with
  | .o h, .d y, some k => match st[h]? with
    | some (.dT kvs) => kvs.length < sizeLine ∧ match valG kvs k with
      | some d => Q (.d d) st
      | none => Q (.d y) (st.set h (.dT (putG kvs k y)))
    | _ => False
  | _, _, _ => False) := rfl
end
section
variable {X : Cx} {E : WXs} {p pos : Pos}
def wListRgO (tr : DX → Sls → Sto → (Int → Int → Sto → Prop) → Prop) : DE := fun Ed sl st Q => tr Ed sl st fun i j st => RgOk i j ∧ Q (.o st.length) (st ++ [.lst (rng i (j - i).toNat)])
theorem wListRgO_ap {tr : DX → Sls → Sto → (Int → Int → Sto → Prop) → Prop} {Ed : DX} {sl : Sls} {st : Sto} {Q : DK} : wListRgO tr Ed sl st Q = (tr Ed sl st fun i j st => RgOk i j ∧ Q (.o st.length) (st ++ [.lst (rng i (j - i).toNat)])) := rfl
end
end Pz
set_option maxRecDepth 100000
namespace Pz
open PySem PySem.Spec PyProof.Rows L2 TL PySem.W
variable [PenC]
section
variable {X : Cx} {E : WXs} {Z0 : Zs} {L M F : List Str} {pos pos' np : Pos}
def wTryC (L : List Str) (y : Str) (j : Nat) (u : DS) : DS := fun D sl st => u ⟨D.nx, D.rt, fun c fs sl' st' => c ∈ L ∧ if subB c y = true then D.nx (sl'.set j (some (.d .none))) st' else D.ex c fs sl' st', D.bk, D.ct⟩ sl st
theorem wTryC_ap {y : Str} {j : Nat} {u : DS} {nx bk ct : Sls → Sto → Prop} {rt : DK} {ex : DX} {sl : Sls} {st : Sto} : wTryC L y j u ⟨nx, rt, ex, bk, ct⟩ sl st = u ⟨nx, rt, fun c fs sl' st' => c ∈ L ∧ if subB c y = true then nx (sl'.set j (some (.d .none))) st' else ex c fs sl' st', bk, ct⟩ sl st := rfl
end
end Pz
set_option maxRecDepth 100000
namespace Pz
open PySem PySem.Spec PyProof.Rows L2 TL PySem.W
variable [PenC]
def atS (zs : List Str) (i : Nat) : Str := zs.getD i (Str.ofString "")
def minL (zs : List Str) : Str := atS zs (argBest (fun i j => decide (((atS zs i).length : Int) < ((atS zs j).length : Int))) (zs.length - 1))
section
variable {prog : Program} {w : World} {A : Around} {E : Value → Shared → Prop} {s : Shared} {l : Addr}
end
def rMinLen (K : Frag) : List V → Hp → VK → Prop := fun vs H Q => ∃ (a : Addr) (zs : List Str), vs = [V.ref a] ∧ SqL K H a (zs.map V.str) ∧ (∀ z ∈ zs, z.length ≤ sizeLine) ∧ zs ≠ [] ∧ Q (.str (minL zs)) H
section
variable {X : Cx} {E : WXs} {e : Expr} {te : DE} {x : Str} {p p2 pos kp : Pos} {K : Frag} {t : TA}
def wMinLen (te : DE) : DE := fun Ed sl st Q => te Ed sl st fun s st => match vw st s with
  | some (.list ds) => ∃ zs, asStrs ds = some zs ∧ (∀ z ∈ zs, z.length ≤ 16777216) ∧ zs ≠ [] ∧ Q (.d (.str (minL zs))) st
  | _ => False
theorem wMinLen_ap {Ed : DX} {sl : Sls} {st : Sto} {Q : DK} : wMinLen te Ed sl st Q = (te Ed sl st fun s st => match vw st s with
  | some (.list ds) => ∃ zs, asStrs ds = some zs ∧ (∀ z ∈ zs, z.length ≤ 16777216) ∧ zs ≠ [] ∧ Q (.d (.str (minL zs))) st
  | _ => False) := rfl
end
end Pz
set_option maxRecDepth 100000
set_option maxHeartbeats 1000000
namespace Zt
open PySem PySem.Spec PyProof.Rows L2 Zm
section
variable {prog : Program} {w : World} {A : Around} {E : Value → Shared → Prop} {s : Shared}
abbrev mT1 (h : Heap) (l1 : Addr) : Heap := h.push { cls := .type "tuple_iterator", data := .fields #[.ref l1, .int 0 0] }
variable {z TI TO i1 i2 l1 l2 : Addr} {k : Nat} {xs ys : Array Value} {x y a b : Value} {S1 S2 : Nat → Heap → Prop}
abbrev mT2 (h : Heap) (l1 l2 : Addr) : Heap := (mT1 h l1).push { cls := .type "list_iterator", data := .fields #[.ref l2, .int 0 0] }
abbrev mT3 (h : Heap) (l1 l2 : Addr) : Heap := (mT2 h l1 l2).push { cls := .type "tuple", data := .seq #[.ref h.objs.size, .ref (mT1 h l1).objs.size] }
abbrev mT4 (h : Heap) (l1 l2 : Addr) : Heap := (mT3 h l1 l2).push { cls := .type "tuple", data := .seq #[.none, .none] }
abbrev mT5 (h : Heap) (l1 l2 : Addr) : Heap := (mT4 h l1 l2).push { cls := .type "zip", data := .fields #[.none, .bool false, .bool false, .ref (mT2 h l1 l2).objs.size, .ref (mT3 h l1 l2).objs.size] }
theorem meets_new (l1 l2 : Addr) (xs ys : Array Value) :
    Meets (Builtin.«zip.__new__» ⟨[.type "zip", .ref l1, .ref l2], []⟩) (fun _ R s => s.heap.IsTuple l1 xs ∧ s.heap.IsList l2 ys ∧
      R (.ok (.ret (.ref (mT4 s.heap l1 l2).objs.size))) { s with heap := mT5 s.heap l1 l2 }) :=
  .of_wp fun prog w A R s h => by
    obtain ⟨hp, g, d, tk, os⟩ := s; obtain ⟨hl1, hl2, h⟩ := h
    have hsub := sub_zip
    have hL1 : Heap.IsTuple (Shared.heap ⟨hp, g, d, tk, os⟩) l1 xs := hl1
    have hL2 : Heap.IsList (Shared.heap ⟨hp.push { cls := .type "tuple_iterator", data := .fields #[.ref l1, .int 0 0] }, g, d, tk, os⟩) l2 ys := Heap.IsList.push hl2 _
    wp_walk using wpAny_pyIter_tuple hL1, wpAny_pyIter_list hL2
    exact ⟨_, rfl, h⟩
theorem call_new {Q : Value → Shared → Prop} (hl1 : s.heap.IsTuple l1 xs) (hl2 : s.heap.IsList l2 ys)
    (h : ∀ h', IsZip h' (s.heap.objs.size + 4) (s.heap.objs.size + 2) (s.heap.objs.size + 3) .none → IsPair h' (s.heap.objs.size + 2) (.ref s.heap.objs.size) (.ref (s.heap.objs.size + 1)) →
      IsPair h' (s.heap.objs.size + 3) .none .none → h'.IsTupleIter s.heap.objs.size l1 0 → h'.IsListIter (s.heap.objs.size + 1) l2 0 →
      (∀ c o, s.heap.get? c = some o → h'.get? c = some o) → Q (.ref (s.heap.objs.size + 4)) { s with heap := h' }) :
    wpAny (model prog w) A (call (.type "zip") [.ref l1, .ref l2]) Q E s := by
  refine callType_new F.called_zip (by decide) (F.typeCall_zip_2 _ _) (F.newCall_zip_2 _ _) (fun obj => F.args_object_init_3 obj _ _) F.entry_zip_new (meets_new l1 l2 xs ys) ⟨hl1, hl2, ?_⟩
  have n1 : (mT1 s.heap l1).objs.size = s.heap.objs.size + 1 := Heap.size_push ..
  have n2 : (mT2 s.heap l1 l2).objs.size = s.heap.objs.size + 2 := by rw [Heap.size_push, n1]
  have n3 : (mT3 s.heap l1 l2).objs.size = s.heap.objs.size + 3 := by rw [Heap.size_push, n2]
  have n4 : (mT4 s.heap l1 l2).objs.size = s.heap.objs.size + 4 := by rw [Heap.size_push, n3]
  have on : ∀ {h : Heap} {ob o : Obj} {c : Addr}, h.get? c = some o → (h.push ob).get? c = some o := fun q => Heap.get?_push_of_some _ q
  have g5 : (mT5 s.heap l1 l2).get? (mT4 s.heap l1 l2).objs.size = some _ := Heap.get?_push_size _ rfl
  have g4 : (mT5 s.heap l1 l2).get? (mT3 s.heap l1 l2).objs.size = some _ := on (Heap.get?_push_size _ rfl)
  have g3 : (mT5 s.heap l1 l2).get? (mT2 s.heap l1 l2).objs.size = some _ := on (on (Heap.get?_push_size _ rfl))
  have g2 : (mT5 s.heap l1 l2).get? (mT1 s.heap l1).objs.size = some _ := on (on (on (Heap.get?_push_size _ rfl)))
  have g1 : (mT5 s.heap l1 l2).get? s.heap.objs.size = some _ := on (on (on (on (Heap.get?_push_size _ rfl))))
  show _ ∧ _
  rw [n2, n3, n4] at g5
  rw [n1, n2] at g3
  rw [n3] at g4
  rw [n1] at g2
  rw [n4]
  exact ⟨⟨_, g5, rfl⟩, h _ g5 g3 g4 ⟨_, g1, rfl, rfl⟩ ⟨_, g2, rfl, rfl⟩ fun c o q => on (on (on (on (on q))))⟩
end
def ItN (K : PySem.W.Frag) (a b : Addr) : It :=
  ⟨fun i H => ∃ (xs ys : List V) (x y : V), SqT K H a xs ∧ SqL K H b ys ∧ xs[i]? = some x ∧ ys[i]? = some y,
    fun i H v H' => ∃ T x y, v = .ref T ∧ H T = none ∧ H' = upd H T (.tup [x, y]) ∧ (∀ xs, SqT K H a xs → xs[i]? = some x) ∧ ∀ ys, SqL K H b ys → ys[i]? = some y,
    fun i H => ∃ xs ys : List V, SqT K H a xs ∧ SqL K H b ys ∧ (xs.length ≤ i ∨ ys.length ≤ i)⟩
def iZipN (K : PySem.W.Frag) (ta : TA) : TI := fun σ H R => ta σ H fun vs H1 => ∃ a b xs ys, vs = [.ref a, .ref b] ∧ SqT K H1 a xs ∧ SqL K H1 b ys ∧ R (ItN K a b) H1
end Zt
namespace Pz
open PySem PySem.Spec PyProof.Rows L2 TL
variable [PenC]
variable {X : Cx} {E : WXs} {Z0 : Zs} {K : Frag} {t : DA} {e e2 : Expr} {p pos tpos : Pos} {elts : List Expr} {kk : Nat}
def wZipN (te : DA) : DI := fun Ed sl st Q => te Ed sl st fun ss st => match ss with
  | [.d (.tuple ds), .d (.list es)] => Q (zipD ds es) st
  | _ => False
theorem wZipN_ap {te : DA} {Ed : DX} {sl : Sls} {st : Sto} {Q : List PyData → Sto → Prop} : wZipN te Ed sl st Q = (te Ed sl st fun ss st => match ss with
  | [.d (.tuple ds), .d (.list es)] => Q (zipD ds es) st
  | _ => False) := rfl
end Pz
set_option maxRecDepth 100000
set_option maxHeartbeats 2000000
namespace L2
open PySem PySem.Spec PyProof PyProof.Rows PySem.W
section
variable {X : Cx} {pins : List (Addr × Obj)} {σ : St} {H : Hp} {s : Shared} {a b : Addr} {r : Value} {d : V} {k : List L2.Key} {A : Around} {E : Value → Shared → Prop}
end
section
variable {X : Cx}
def tDcT (wi : TI) (g : TG) (tt : TT) (tk tv : TE) (vs : List Nat) : TE := fun σ H Q => wi σ H fun J H1 => ∀ D, H1 D = none → ∃ G : Nat → Nat → Hp → Prop, (∃ m, G 0 m (upd H1 D (.dT []))) ∧ ∀ i m H, G i m H →
  (J.stop i H ∧ Q (.ref D) H) ∨ (J.go i H ∧ ∃ Nx : Hp → Prop, (∀ H', Nx H' → ∃ m', m' < m ∧ G (i + 1) m' H') ∧ ∀ x H', J.yld i H x H' → g x (wipe σ vs) H' fun σ2 H2 => wipe σ2 vs = wipe σ vs ∧ tt σ2 H2 fun b H3 =>
    if b = true then tk σ2 H3 fun y H4 => tv σ2 H4 fun z H5 => ∃ kvs k c, y = .ref c ∧ H5 c = some (.tup (k.map kV)) ∧ H5 D = some (.dT kvs) ∧ kvs.length < sizeLine ∧ Nx (upd H5 D (.dT (putK kvs k z))) else Nx H3)
end
section
variable {X : Cx} {kx vx tg iter : Expr} {ifs : List Expr} {scope : Scope} {own : List (Str × Nat)} {pos pos' : Pos} {wi : TI} {g : TG} {tt : TT} {tk tv : TE}
structure DcP (X : Cx) (scope : Scope) (tg kx vx : Expr) (ifs : List Expr) (g : TG) (tt : TT) (tk tv : TE) : Prop where
  g : ∀ (s : Shared) (H : Hp) (C : Addr) (cl : List (Str × Addr)) (fp : List Addr), PG (X.blk s H scope (compEnvC scope cl C X.env) fp) tg g
  t : ∀ (s : Shared) (H : Hp) (C : Addr) (cl : List (Str × Addr)) (fp : List Addr), PTs (X.blk s H scope (compEnvC scope cl C X.env) fp) ifs tt
  k : ∀ (s : Shared) (H : Hp) (C : Addr) (cl : List (Str × Addr)) (fp : List Addr), PE (X.blk s H scope (compEnvC scope cl C X.env) fp) kx tk
  v : ∀ (s : Shared) (H : Hp) (C : Addr) (cl : List (Str × Addr)) (fp : List Addr), PE (X.blk s H scope (compEnvC scope cl C X.env) fp) vx tv
end
end L2
set_option maxRecDepth 100000
namespace Pz
open PySem PySem.Spec PyProof.Rows L2 TL PySem.W
variable [PenC]
section
variable {X : Cx} {E : WXs} {Z0 : Zs} {a b c e : Expr} {es : List Expr} {ta tb tc te : DE} {t : DA} {pos p : Pos} {x : Str} {K : Frag} {A : DT}
def wDcTL (g : DG) (tt : DT) (tk te : DE) (sl : Sls) (h : Nat) : List PyData → Sto → (Sto → Prop) → Prop
  | [] => fun st Q => match st[h]? with
    | some (.dT _) => Q st
    | _ => False
  | d :: ds => fun st Q => g (.d d) sl st fun sl2 st => tt (fun _ _ _ _ => False) sl2 st fun b st => if b = true then tk (fun _ _ _ _ => False) sl2 st fun ks st => te (fun _ _ _ _ => False) sl2 st fun s st => match kyS st ks, s, st[h]? with
      | some k, .d y, some (.dT acc) => acc.length < sizeLine ∧ wDcTL g tt tk te sl h ds (st.set h (.dT (putG acc k y))) Q
      | _, _, _ => False
    else wDcTL g tt tk te sl h ds st Q
def wDcT (ω : DI) (g : DG) (tt : DT) (tk te : DE) (vs : List Nat) : DE := fun Ed sl st Q => ω Ed sl st fun ds st => wDcTL g tt tk te (wipeS sl vs) st.length ds (st ++ [.dT []]) fun st' => Q (.o st.length) st'
theorem wDcT_ap {ω : DI} {g : DG} {tt : DT} {tk te : DE} {vs : List Nat} {Ed : DX} {sl : Sls} {st : Sto} {Q : DK} : wDcT ω g tt tk te vs Ed sl st Q = ω Ed sl st fun ds st => wDcTL g tt tk te (wipeS sl vs) st.length ds (st ++ [.dT []]) fun st' => Q (.o st.length) st' := rfl
variable {elt kx tg iter : Expr} {ifs : List Expr} {scope : Scope} {own : List (Str × Nat)} {ω : DI} {is : List Nat} {g : DG} {tt : DT}
end
end Pz
set_option maxRecDepth 100000
set_option maxHeartbeats 2000000
namespace PySem
open Sem (wp)
open PySem PySem.Spec PyProof.Rows
section
variable {prog : Program} {w : World} {A : Around} {R : Result → Shared → Prop} {I : Addr} {fp wr : List Addr} {G : Array GenState → Array GenState → Prop} {n : Nat} {P : Nat → Value → Prop} {St : Nat → Shared → Prop}
def preCat (z : List Value) (seg : Nat → List Value) : Nat → List Value
  | 0 => z
  | i + 1 => preCat z seg i ++ seg i
theorem sum_loopL (W : WalksS prog w A.in1 I fp wr G n P St) (h0 : Heap) (z : List Value) (seg : Nat → List Value) (hval : ∀ i v, i < n → P i v → ∃ b c, v = .ref b ∧ IsL h0 b (seg i).toArray c) (hsz : (preCat z seg n).length ≤ sizeLine) (S : Addr) (hSf : S ∉ fp) (hS0 : h0.get? S = none) (hw0 : ∀ b ∈ wr, h0.get? b = none) (hwl : ∀ i (s : Shared), St i s → ∀ b ∈ wr, b < s.heap.objs.size) :
    ∀ (k i : Nat) (s : Shared) (a c m : Nat), n - i = k → i ≤ n → St i s → (∀ b o, h0.get? b = some o → s.heap.get? b = some o) → a ∉ S :: wr → IsL s.heap a (preCat z seg i).toArray m →
    s.heap.get? S = some { cls := .type "list", dict := none, data := .seq #[.ref a] c, slots := #[] } →
    (∀ s' a' m', Moved (S :: wr) G s s' → (∀ b o, h0.get? b = some o → s'.heap.get? b = some o) → IsL s'.heap a' (preCat z seg n).toArray m' → (i = n → a' = a) → (i < n → h0.get? a' = none) → R (.ok (.ret (.ref a'))) s') →
    codeAny (model prog w) A (.builtin "sum.loop" ⟨[.ref I, .ref S, rawInt 2, rawInt 0], []⟩) R s := by
  have hSw : S ∉ wr := fun h => hSf (W.sub _ h)
  have hsub : ∀ b ∈ wr, b ∈ S :: wr := fun b hb => List.mem_cons_of_mem _ hb
  intro k
  induction k with
  | zero =>
    intro i s a c m hk hi hst h0s ha hA hS hR
    have hin : i = n := by omega
    subst hin
    refine codeAny_builtin F.entry_sum_loop ?_
    rw [Around.under_plainId F.plain_sum_loop _]
    show wpAny _ A.in1 (seqItems? (.ref S) >>= _) _ _ s
    refine wpAny_bind (wpAny_seqItems hS rfl ?_)
    show wpAny _ A.in1 (tryCatch (pyNext (.ref I)) _ >>= _) _ _ s
    refine wpAny_bind (wpAny_tryCatch (W.done s _ _ hst fun s' hm => ?_))
    refine wpAny_pure (hR s' a m (hm.mono hsub) (fun b o e => hm.heap b o (fun hb => by rw [hw0 b hb] at e; cases e) (h0s b o e)) (hm.heap a _ (fun hb => ha (hsub _ hb)) hA) (fun _ => rfl) (fun h => absurd h (Nat.lt_irrefl _)))
  | succ k ih =>
    intro i s a c m hk hi hst h0s ha hA hS hR
    have hlt : i < n := by omega
    refine codeAny_builtin F.entry_sum_loop ?_
    rw [Around.under_plainId F.plain_sum_loop _]
    show wpAny _ A.in1 (seqItems? (.ref S) >>= _) _ _ s
    refine wpAny_bind (wpAny_seqItems hS rfl ?_)
    show wpAny _ A.in1 (tryCatch (pyNext (.ref I)) _ >>= _) _ _ s
    refine wpAny_bind (wpAny_tryCatch (W.item i s _ _ hlt hst fun v s' hP hst' hm => ?_))
    obtain ⟨b, cb, rfl, hb0⟩ := hval i v hlt hP
    have hS' := hm.heap S _ hSw hS
    have hA' := hm.heap a _ (fun hb => ha (hsub _ hb)) hA
    have h0s' : ∀ b o, h0.get? b = some o → s'.heap.get? b = some o := fun b o e => hm.heap b o (fun hb => by rw [hw0 b hb] at e; cases e) (h0s b o e)
    have hB' := h0s' b _ hb0
    show wpAny _ A.in1 ((holding [Value.ref b] (binaryOp .Add (.ref a) (.ref b))).attempt >>= _) _ _ _
    refine wpAny_bind (wpAny_attempt (wpAny_holding (PySem.P.add_list hA' hB' ?_ ?_)))
    · have hSn : S ≠ s'.heap.objs.size := Nat.ne_of_lt (Heap.lt_size hS')
      have hS1 := Heap.get?_push_of_some { cls := .type "list", data := .seq ((preCat z seg i).toArray ++ (seg i).toArray) } hS'
      show wpAny _ A.in1 (updateSeq S (fun _ => #[.ref s'.heap.objs.size]) >>= _) _ _ _
      refine wpAny_bind (wpAny_updateSeq hS1 rfl ?_)
      have hS₂ := Heap.get?_update_self (Obj.mapSeq fun _ => #[Value.ref s'.heap.objs.size]) hS1 rfl
      refine wpAny_bind (wpAny_letGo ?_)
      have kp : ∀ b o, b ≠ S → s'.heap.get? b = some o → (((s'.heap.push { cls := .type "list", data := .seq ((preCat z seg i).toArray ++ (seg i).toArray) }).update S (Obj.mapSeq fun _ => #[Value.ref s'.heap.objs.size])).update S (Obj.mapSeq fun _ => #[Value.ref s'.heap.objs.size])).get? b = some o := fun b o hb e =>
        (Heap.get?_update_other _ _ (fun h : S = b => hb h.symm)).trans ((Heap.get?_update_other _ _ (fun h : S = b => hb h.symm)).trans (Heap.get?_push_of_some _ e))
      have hnew : IsL (((s'.heap.push { cls := .type "list", data := .seq ((preCat z seg i).toArray ++ (seg i).toArray) }).update S (Obj.mapSeq fun _ => #[Value.ref s'.heap.objs.size])).update S (Obj.mapSeq fun _ => #[Value.ref s'.heap.objs.size])) s'.heap.objs.size (preCat z seg (i + 1)).toArray 0 := by
        refine (Heap.get?_update_other _ _ hSn).trans ((Heap.get?_update_other _ _ hSn).trans ?_)
        rw [Heap.get?_push_size _ rfl]
        simp [preCat]
      have h00 : h0.get? s'.heap.objs.size = none := by
        cases e : h0.get? s'.heap.objs.size with
        | none => rfl
        | some o => exact absurd (Heap.lt_size (h0s' _ _ e)) (Nat.lt_irrefl _)
      have hne : s'.heap.objs.size ∉ S :: wr := fun hm2 => by
        rcases List.mem_cons.mp hm2 with e | hm2
        · exact hSn e.symm
        · exact absurd (hwl _ _ hst' _ hm2) (Nat.lt_irrefl _)
      refine wpAny_bind (wpAny_updateSeq hS₂ rfl (wpAny_pure ⟨plainId_quiet F.plain_sum_loop _, ih (i + 1) _ s'.heap.objs.size _ 0 (by omega) hlt (W.frame _ s' _ _ hst' (Nat.le_refl _) fun b hb o e => kp b o (fun h => hSf (by rw [← h]; exact hb)) e) (fun b o e => kp b o (fun h => by rw [h, hS0] at e; cases e) (h0s' b o e)) hne hnew (Heap.get?_update_self _ hS₂ rfl) fun s'' a' m' hm'' g1 g2 g3 g4 => ?_⟩))
      refine hR s'' a' m' (Moved.trans W.gtrans ((hm.mono hsub).then_heap (Nat.le_refl _) fun b o hb e => kp b o (fun h => hb (by rw [h]; exact List.mem_cons_self)) e) hm'') g1 g2 (fun h => absurd h (by omega)) (fun _ => ?_)
      by_cases hl : i + 1 = n
      · rw [g3 hl]; exact h00
      · exact g4 (by omega)
    · have : (preCat z seg (i + 1)).length ≤ (preCat z seg n).length := by
        have mono : ∀ d, (preCat z seg (i + 1)).length ≤ (preCat z seg (i + 1 + d)).length := fun d => by
          induction d with
          | zero => exact Nat.le_refl _
          | succ d ih2 => exact Nat.le_trans ih2 (by rw [show i + 1 + (d + 1) = (i + 1 + d) + 1 from rfl, preCat, List.length_append]; omega)
        have := mono (n - (i + 1))
        rwa [show i + 1 + (n - (i + 1)) = n by omega] at this
      rw [preCat, List.length_append] at this
      simp only [List.size_toArray]
      omega
end
section
variable {prog : Program} {w : World} {A : Around} {E : Value → Shared → Prop} {s : Shared}
theorem args_sum2 (a b : Value) : argsOk "sum" ⟨[a, b], []⟩ := by unfold argsOk; kernel_rfl
theorem sub_list_str : isSubtype (.type "list") (.type "str") = pure false := by rw [isSubtype_type]; kernel_rfl
theorem sub_list_bytes : isSubtype (.type "list") (.type "bytes") = pure false := by rw [isSubtype_type]; kernel_rfl
theorem sub_list_bytearray : isSubtype (.type "list") (.type "bytearray") = pure false := by rw [isSubtype_type]; kernel_rfl
theorem call_sumL {l b0 : Addr} {its : Array Value} {z : List Value} {seg : Nat → List Value} {m0 : Nat} {Q : Value → Shared → Prop} (hh : A.handled = none) (hl : s.heap.IsList l its) (hb : IsL s.heap b0 z.toArray m0)
    (hval : ∀ i v, its[i]? = some v → ∃ b c, v = .ref b ∧ IsL s.heap b (seg i).toArray c) (hsz : (preCat z seg its.size).length ≤ sizeLine)
    (hQ : ∀ h' tk a' m', (∀ b o, s.heap.get? b = some o → h'.get? b = some o) → IsL h' a' (preCat z seg its.size).toArray m' → (its.size = 0 → a' = b0) → (0 < its.size → s.heap.get? a' = none) → Q (.ref a') { s with heap := h', toks := tk }) :
    wpAny (model prog w) A (call (.builtin "sum") [.ref l, .ref b0]) Q E s := by
  refine call_function_tree F.kind_sum F.plain_sum F.entry_sum (args_sum2 _ _) ?_
  unfold Builtin.«sum»
  simp only [List.length_cons, List.length_nil]
  rw [if_neg (by decide)]
  refine wpAny_bind (wpAny_of_eq (show Builtin.Builtins.bindParams "sum" ["start"] 0 ⟨[.ref b0], []⟩ = pure [some (.ref b0)] from rfl) ?_)
  refine wpAny_bind (wpAny_pyIter_list hl ?_)
  refine wpAny_bind (wpAny_pure ?_)
  simp only [List.forIn_cons, List.forIn_nil]
  have hT : (⟨s.heap.push { cls := .type "list_iterator", data := .fields #[.ref l, .int 0 0] }, s.gens, s.drawn, s.toks, s.os⟩ : Shared).TypeIs (.ref b0) "list" := ⟨_, Heap.get?_push_of_some _ hb, rfl⟩
  refine wpAny_bind (wpAny_bind (wpAny_bind (wpAny_isInstance (T := "list") (b := false) hT sub_list_str ?_)))
  simp only [Bool.false_eq_true, if_false]
  refine wpAny_pure (wpAny_bind (wpAny_bind (wpAny_isInstance (T := "list") (b := false) hT sub_list_bytes ?_)))
  simp only [Bool.false_eq_true, if_false]
  refine wpAny_pure (wpAny_bind (wpAny_bind (wpAny_isInstance (T := "list") (b := false) hT sub_list_bytearray ?_)))
  simp only [Bool.false_eq_true, if_false]
  refine wpAny_pure (wpAny_pure ?_)
  refine wpAny_bind (wpAny_newObj_type ?_)
  obtain ⟨ol, hol, _⟩ := id hl
  have hll : l < s.heap.objs.size := Heap.lt_size hol
  have hz1 : (s.heap.push { cls := .type "list_iterator", data := .fields #[.ref l, .int 0 0] }).objs.size = s.heap.objs.size + 1 := Heap.size_push ..
  have W := (Walks.list (prog := prog) (w := w) (A := A.in1) hh s.heap.objs.size l (Nat.ne_of_lt hll) its).toS
  have k2 : ∀ b o, s.heap.get? b = some o → ((s.heap.push { cls := .type "list_iterator", data := .fields #[.ref l, .int 0 0] }).push { cls := .type "list", data := .seq #[.ref b0] }).get? b = some o := fun b o e => Heap.get?_push_of_some _ (Heap.get?_push_of_some _ e)
  have fr : ∀ a, s.heap.objs.size ≤ a → s.heap.get? a = none := fun a ha => by
    cases e : s.heap.get? a with
    | none => rfl
    | some o => exact absurd (Heap.lt_size e) (Nat.not_lt.mpr ha)
  refine wpAny_pure ⟨plainId_quiet F.plain_sum_loop _, sum_loopL W s.heap z seg (fun i v _ hv => hval i v hv) hsz (s.heap.push { cls := .type "list_iterator", data := .fields #[.ref l, .int 0 0] }).objs.size (fun hm => ?_) (fr _ (by rw [hz1]; exact Nat.le_succ _)) (fun b hb' => by rw [List.mem_singleton.mp hb']; exact fr _ (Nat.le_refl _)) (fun i s2 st b hb' => ?_)
    its.size 0 ⟨(s.heap.push { cls := .type "list_iterator", data := .fields #[.ref l, .int 0 0] }).push { cls := .type "list", data := .seq #[.ref b0] }, s.gens, s.drawn, s.toks, s.os⟩ b0 0 m0 rfl (Nat.zero_le _) ?_ k2 (fun hm => ?_) (k2 _ _ hb) ?_ fun s' a' m' hm g1 g2 g3 g4 => ?_⟩
  · rw [hz1] at hm
    simp only [List.mem_cons, List.not_mem_nil, or_false] at hm
    rcases hm with h | h
    · exact absurd h (Nat.succ_ne_self _)
    · rw [← h] at hll; exact absurd hll (Nat.not_lt.mpr (Nat.le_succ _))
  · rw [List.mem_singleton.mp hb']
    obtain ⟨⟨o, ho, _⟩, _⟩ := st
    exact Heap.lt_size ho
  · exact ⟨⟨_, Heap.get?_push_of_some _ (Heap.get?_push_size _ rfl), rfl, rfl⟩, (hl.push _).push _⟩
  · have := Heap.lt_size hb
    rw [hz1] at hm
    simp only [List.mem_cons, List.not_mem_nil, or_false] at hm
    rcases hm with h | h
    · rw [h] at this; exact absurd this (Nat.not_lt.mpr (Nat.le_succ _))
    · rw [h] at this; exact absurd this (Nat.lt_irrefl _)
  · exact Heap.get?_push_size _ rfl
  · rw [Moved.eq_with (wr := _) ⟨hm.heap, hm.gens, hm.drawn, hm.os, hm.toks⟩]
    exact hQ _ _ a' m' g1 g2 (fun h => g3 h.symm) g4
end
end PySem
namespace L2
open PySem PySem.Spec PyProof.Rows
section
variable {X : Cx}
inductive LstsAt (H : Hp) : List V → List (List V) → Prop
  | nil : LstsAt H [] []
  | cons {c : Addr} {ys : List V} {xs : List V} {yss : List (List V)} (e : H c = some (.lst ys)) (r : LstsAt H xs yss) : LstsAt H (.ref c :: xs) (ys :: yss)
def rSumL (K : PySem.W.Frag) : List V → Hp → VK → Prop := fun vs H Q => ∃ (a b : Addr) (xs zs : List V) (yss : List (List V)), vs = [.ref a, .ref b] ∧ SqL K H a xs ∧ H b = some (.lst zs) ∧ LstsAt H xs yss ∧
  (zs ++ yss.flatten).length ≤ sizeLine ∧ (yss = [] → Q (.ref b) H) ∧ (yss ≠ [] → ∀ p, H p = none → Q (.ref p) (upd H p (.lst (zs ++ yss.flatten))))
theorem preCat_eq {z : List Value} {seg : Nat → List Value} {ls : List (List Value)} (h : ∀ (i : Nat) (l : List Value), ls[i]? = some l → seg i = l) : ∀ n, n ≤ ls.length → PySem.preCat z seg n = z ++ (ls.take n).flatten
  | 0, _ => by simp [PySem.preCat]
  | n + 1, hn => by
    have hx : ls[n]? = some ls[n] := List.getElem?_eq_getElem hn
    rw [PySem.preCat, preCat_eq h n (by omega), h n _ hx, List.take_succ, hx]
    rw [List.append_assoc, List.flatten_append]
    congr 1
    simp
theorem sumL_lists {pins : List (Addr × Obj)} {σ : St} {H : Hp} {s : Shared} (I : Inv X pins σ H s) {xs : List V} {yss : List (List V)} (h : LstsAt H xs yss) : ∀ {its : List Value}, Vals xs its →
    ∃ lss : List (List Value), lss.length = its.length ∧ yss.length = its.length ∧ Vals yss.flatten lss.flatten ∧ ∀ (i : Nat) (v : Value) (l : List Value), its[i]? = some v → lss[i]? = some l → ∃ c n, v = .ref c ∧ IsL s.heap c l.toArray n := by
  induction h with
  | nil =>
    intro its r
    cases r
    exact ⟨[], rfl, rfl, .nil, fun i v l h => by simp at h⟩
  | cons e r ih =>
    rename_i c ys xs yss
    intro its rv
    cases rv with
    | cons r1 r2 =>
      rename_i u us
      obtain rfl : u = Value.ref c := r1
      obtain ⟨lss, h1, h2, h3, h4⟩ := ih r2
      obtain ⟨z, l, n, rl, hl, el⟩ := I.lstM e
      refine ⟨l :: lss, by simp [h1], by simp [h2], by rw [List.flatten_cons, List.flatten_cons]; exact rl.append h3, fun i v l' hv hl' => ?_⟩
      cases i with
      | zero =>
        simp only [List.getElem?_cons_zero, Option.some.injEq] at hv hl'
        subst hv hl'
        exact ⟨c, n, rfl, el⟩
      | succ i =>
        simp only [List.getElem?_cons_succ] at hv hl'
        exact h4 i v l' hv hl'
theorem Inv.trackL {pins : List (Addr × Obj)} {σ : St} {H : Hp} {s : Shared} {a : Addr} {ys : List V} {its : List Value} {n : Nat} (I : Inv X pins σ H s) (he : s.heap.get? a = some { cls := .type "list", data := .seq its.toArray n }) (hz : ys.length ≤ sizeLine) (rv : Vals ys its) (na : H a = none)
    (n0 : ∀ o, X.s_0.heap.get? a = some o → a ∈ X.ex) (nL : a ≠ X.env.locals) (np : ∀ p ∈ X.pn ++ pins, p.1 ≠ a) : Inv X pins σ (upd H a (.lst ys)) s := by
  have up : ∀ b u, H b = some u → upd H a (.lst ys) b = some u := fun b u e => by
    rw [upd_ne (fun z => by rw [z, na] at e; cases e)]; exact e
  refine ⟨I.ok, I.os, I.bare, ⟨I.base.keep, I.base.slot, fun b o e n hx => ?_, I.base.there, fun b xs e => up _ _ (I.base.tups b xs e), fun b o xs e => up _ _ (I.base.frzs b o xs e), fun b ps e => ?_⟩, I.loc, I.cell, ?_, fun x c e => ?_, fun p hp => ?_, fun b u e => ?_, I.len⟩
  · rw [upd_ne (fun z => by subst z; exact hx (n0 o e))]
    exact I.base.free b o e n hx
  · obtain ⟨m, z⟩ := I.base.tbls b ps e
    exact ⟨m, up _ _ z⟩
  · rw [upd_ne (Ne.symm nL)]
    exact I.free
  · rw [upd_ne (fun z => ?_)]
    · exact I.freeC x c e
    · subst z
      obtain ⟨v, o, ho, hdd⟩ := I.cell x c e
      rw [he] at ho; cases ho
      cases hdd
  · obtain ⟨e, n, ne, nf, dd⟩ := I.pin p hp
    exact ⟨e, by rw [upd_ne (np p hp)]; exact n, ne, nf, dd⟩
  · by_cases hb : b = a
    · subst hb
      rw [upd_same] at e
      cases e
      exact ⟨hz, its, n, rv, he⟩
    · rw [upd_ne hb] at e
      exact (I.hok b u e).stay (fun c w _ q => q) (fun c q => up _ _ q) fun c xs q => up _ _ q
theorem cr_sumL (hc : X.calm = true) : CallR X (.builtin "sum") (rSumL X.K) := by
  intro pins s σ H vs us Q I r h
  obtain ⟨a, b, xs, zs, yss, rfl, hs, hb, hit, hsz, q1, q2⟩ := h
  obtain ⟨u1, u2, rfl, r1, r2⟩ := L2.vals2 r
  obtain rfl : u1 = Value.ref a := r1
  obtain rfl : u2 = Value.ref b := r2
  obtain ⟨its, rv, hl, _⟩ := I.list hs
  obtain ⟨z, zts, zn, zr, zl, ze⟩ := I.lstM hb
  obtain ⟨lss, h1, h2, h3, h4⟩ := sumL_lists I hit rv
  have seg : ∀ (i : Nat) (l : List Value), lss[i]? = some l → (fun i => lss.getD i []) i = l := fun i l e => by simp [e]
  have eq : PySem.preCat zts (fun i => lss.getD i []) its.toArray.size = zts ++ lss.flatten := by
    rw [List.size_toArray, preCat_eq seg _ (by omega), List.take_of_length_le (by omega)]
  have rz := zr.append h3
  refine PySem.call_sumL (z := zts) (seg := fun i => lss.getD i []) (I.ok.hd hc) hl.isList ze (fun i v hv => ?_) (by rw [eq, ← rz.length]; exact hsz) fun h' tk a' m' hk hA g1 g2 => ?_
  · rw [List.getElem?_toArray] at hv
    have hi : i < lss.length := by rw [h1]; exact (List.getElem?_eq_some_iff.mp hv).1
    obtain ⟨c, n, e1, e2⟩ := h4 i v lss[i] hv (List.getElem?_eq_getElem hi)
    exact ⟨c, n, e1, by rw [show lss.getD i [] = lss[i] from seg i _ (List.getElem?_eq_getElem hi)]; exact e2⟩
  · rw [eq] at hA
    by_cases hy : yss = []
    · have hi : its.toArray.size = 0 := by rw [List.size_toArray, ← h2, hy]; rfl
      rw [g1 hi]
      exact ⟨.ref b, H, I.kept hk, rfl, q1 hy⟩
    · have hi : 0 < its.toArray.size := by
        rw [List.size_toArray, ← h2]
        exact List.length_pos_iff.mpr hy
      have hn := g2 hi
      have hH : H a' = none := I.hok.gone hn
      have J := I.kept (t' := tk) hk
      have nn : ∀ o, s.heap.get? a' ≠ some o := fun o z => by rw [hn] at z; cases z
      refine ⟨.ref a', _, J.trackL hA hsz rz hH (fun o e => ?_) (fun z => ?_) (fun p hp z => ?_), rfl, q2 hy a' hH⟩
      · apply Classical.byContradiction
        intro hx
        obtain ⟨o', e'⟩ := I.base.there a' o e hx
        exact nn _ e'
      · obtain ⟨_, ⟨od, _, _, ho, _⟩, _⟩ := I.loc
        rw [← z] at ho
        exact nn _ ho
      · have := (I.pin p hp).1
        rw [z] at this
        exact nn _ this
end
end L2
set_option maxRecDepth 100000
namespace Pz
open PySem PySem.Spec PyProof.Rows L2 TL PySem.W
variable [PenC]
section
variable {X : Cx} {E : WXs} {Z0 : Zs} {K : Frag} {rest : List Stmt} {u : DS} {td ty tx : DE} {o e f : Expr} {apos cpos pos : Pos}
def wDNewN : DE := fun Ed sl st Q => Q (.o st.length) (st ++ [.dN []])
theorem wDNewN_ap {Ed : DX} {sl : Sls} {st : Sto} {Q : DK} : wDNewN Ed sl st Q = Q (.o st.length) (st ++ [.dN []]) := rfl
theorem de_dnewN : DEx X E (.Dict [] [] pos) wDNewN := ⟨peI pe_dnewN fun σ H Q ⟨Z, sl, Qd, Ed, h, ok, so, w, k, kx⟩ p n => by
  subst h
  have l := ok.leOwn (o := NdO [] p) (ct := .dN []) n
  refine k (Z.own p (NdO [] p) (.dN [])) (.ref p) (.o Z.st.length) l (ok.own n ⟨[], upd_same, rfl, .nil⟩) ⟨p, .dN [], rfl, ?_, ?_, trivial⟩ w
  · show (Z.φ ++ [p])[Z.st.length]? = _
    rw [← ok.len, List.getElem?_append_right (Nat.le_refl _)]
    simp
  · show (Z.st ++ [Ct.dN []])[Z.st.length]? = _
    rw [List.getElem?_append_right (Nat.le_refl _)]
    simp⟩
def oK : PyData → Option (Option Int)
  | .none => some none
  | .int i => some (some i)
  | _ => none
theorem oK_n : oK .none = some none := rfl
theorem oK_i {i : Int} : oK (.int i) = some (some i) := rfl
theorem oK_ok {Z : Zs} {v : V} {d : PyData} {k : Option Int} (r : Rp K Z v (.d d)) (h : oK d = some k) : v = oV k := by
  have r' : Z.Im K v d := r
  unfold oK at h
  split at h
  · cases h; cases r'; rfl
  · cases h; cases r'; rfl
  · cases h
abbrev KNS := List (Option Int × Sl)
def getN (kvs : KNS) (k : Option Int) : Option Sl := valV' kvs k
where valV' : KNS → Option Int → Option Sl
  | [], _ => none
  | (k', s) :: r, k => if k' = k then some s else valV' r k
theorem getN_cons {k k' : Option Int} {s : Sl} {r : KNS} : getN ((k', s) :: r) k = if k' = k then some s else getN r k := rfl
theorem getN_ok {Z : Zs} {k : Option Int} : ∀ {us : List (Option Int × V)} {kvs : KNS}, us.map (·.1) = kvs.map (·.1) → RpAll K Z (us.map (·.2)) (kvs.map (·.2)) → (∀ s, getN kvs k = some s → ∃ v, valV us k = some v ∧ Rp K Z v s) ∧ (getN kvs k = none → valV us k = none)
  | [], [], _, _ => ⟨fun s h => (by cases h), fun _ => rfl⟩
  | [], _ :: _, e, _ => by cases e
  | _ :: _, [], e, _ => by cases e
  | (k1, v) :: us, (k2, s) :: kvs, e, r => by
    simp only [List.map_cons, List.cons.injEq] at e
    obtain ⟨rfl, e⟩ := e
    cases r with
    | cons r1 r2 =>
      obtain ⟨h1, h2⟩ := getN_ok (k := k) e r2
      by_cases hk : k1 = k
      · subst hk
        refine ⟨fun s' h => ?_, fun h => ?_⟩
        · rw [getN_cons, if_pos rfl] at h
          cases h
          exact ⟨v, by simp [valV], r1⟩
        · rw [getN_cons, if_pos rfl] at h; cases h
      · refine ⟨fun s' h => ?_, fun h => ?_⟩
        · rw [getN_cons, if_neg hk] at h
          obtain ⟨v', e', r'⟩ := h1 s' h
          exact ⟨v', by simpa [valV, hk] using e', r'⟩
        · rw [getN_cons, if_neg hk] at h
          simpa [valV, hk] using h2 h
theorem putN_ok {us : List (Option Int × V)} {k : Option Int} {z : V} (h : valV us k = none) : putK us k z = us ++ [(k, z)] := by
  unfold putK
  rw [if_neg]
  intro q
  obtain ⟨p, hp, e⟩ := List.any_eq_true.mp q
  have : valV us k ≠ none := by
    unfold valV
    intro n
    rw [Option.map_eq_none_iff, List.find?_eq_none] at n
    exact n p hp (by simpa using e)
  exact this h
def dnAt (st : Sto) : Sl → Option KNS
  | .o h => match st[h]? with
    | some (.dN kvs) => some kvs
    | _ => none
  | _ => none
theorem dnAt_o {st : Sto} {h : Nat} : dnAt st (.o h) = match st[h]? with
    | some (.dN kvs) => some kvs
    | _ => none := rfl
theorem dnAt_ok {Z : Zs} (ok : Ok K Z) {v : V} {s : Sl} {kvs : KNS} (r : Rp K Z v s) (h : dnAt Z.st s = some kvs) : ∃ hh a us, s = .o hh ∧ v = .ref a ∧ Z.φ[hh]? = some a ∧ Z.st[hh]? = some (.dN kvs) ∧ Z.H a = some (NdO us a) ∧ us.map (·.1) = kvs.map (·.1) ∧ RpAll K Z (us.map (·.2)) (kvs.map (·.2)) := by
  cases s with
  | o hh =>
    rw [dnAt_o] at h
    obtain ⟨a, c, e, e1, e2, e3⟩ := r
    rw [e2] at h
    cases c with
    | dN kv =>
      cases h
      obtain ⟨us, q1, q2, q3⟩ := ok.ct hh a _ e1 e2
      exact ⟨hh, a, us, rfl, e, e1, e2, q1, q2, q3⟩
    | _ => cases h
  | _ => cases h
theorem RpAll.app {Z : Zs} : ∀ {vs us : List V} {ss ts : List Sl}, RpAll K Z vs ss → RpAll K Z us ts → RpAll K Z (vs ++ us) (ss ++ ts)
  | _, _, _, _, .nil, r => r
  | _, _, _, _, .cons q t, r => .cons q (RpAll.app t r)
def wNSetd (td ty tx : DE) : DE := fun Ed sl st Q => td Ed sl st fun s st => (dnAt st s).isSome = true ∧ ty Ed sl st fun t st => tx Ed sl st fun u st => match s, t with
  | .o h, .d y => match dnAt st (.o h), oK y with
    | some kvs, some k => kvs.length < sizeLine ∧ match getN kvs k with
      | some s' => Q s' st
      | none => Q u (st.set h (.dN (kvs ++ [(k, u)])))
    | _, _ => False
  | _, _ => False
theorem wNSetd_ap {Ed : DX} {sl : Sls} {st : Sto} {Q : DK} : wNSetd td ty tx Ed sl st Q = (td Ed sl st fun s st => (dnAt st s).isSome = true ∧ ty Ed sl st fun t st => tx Ed sl st fun u st => match s, t with
  | .o h, .d y => match dnAt st (.o h), oK y with
    | some kvs, some k => kvs.length < sizeLine ∧ match getN kvs k with
      | some s' => Q s' st
      | none => Q u (st.set h (.dN (kvs ++ [(k, u)])))
    | _, _ => False
  | _, _ => False) := rfl
theorem de_nsetd (hd : DEx X E o td) (hy : DEx X E e ty) (hx : DEx X E f tx) (m : M2 X o "setdefault" apos e f cpos := by exact ⟨rfl, rfl, rfl, rfl⟩) : DEx X E (.Call (.Attribute o "setdefault" apos) [e, f] [] cpos) (wNSetd td ty tx) :=
  ⟨peI (pe_nsetd hd.run hy.run hx.run m) fun σ H Q ⟨Z, sl, Qd, Ed, h, ok, so, w, k, kx⟩ =>
    ⟨Z, sl, _, Ed, h, ok, so, w, fun Z1 x s l1 ok1 r1 w1 => by
      obtain ⟨w0, w1⟩ := w1
      obtain ⟨kvs, e1⟩ := Option.isSome_iff_exists.mp w0
      obtain ⟨hh, a, us, rfl, rfl, q0, q1, q2, _, _⟩ := dnAt_ok ok1 r1 e1
      refine ⟨a, us, rfl, q2, Z1, sl, _, Ed, rfl, ok1, so.tr l1, w1, fun Z2 y t l2 ok2 r2 w2 => ⟨Z2, sl, _, Ed, rfl, ok2, (so.tr l1).tr l2, w2, fun Z3 z u l3 ok3 r3 w3 => ?_, (kx.le l1).le l2⟩, kx.le l1⟩
      dsimp only at w3
      split at w3
      · rename_i h2 d es
        cases es
        split at w3
        · rename_i kvs3 key en ek
          obtain ⟨hh', a', us3, ea, eb, e3, e4, q3, q4, q5⟩ := dnAt_ok ok3 ((r1.tr l2).tr l3) en
          cases ea
          cases eb
          have l0 := (l1.trans l2).trans l3
          obtain ⟨w3, w4⟩ := w3
          obtain ⟨g1, g2⟩ := getN_ok (k := key) q4 q5
          refine ⟨us3, key, q3, oK_ok (r2.tr l3) ek, by have := congrArg List.length q4; simp at this; omega, fun v hv => ?_, fun hn => ?_⟩
          · cases ev : getN kvs3 key with
            | none => rw [g2 ev] at hv; cases hv
            | some s' =>
              rw [ev] at w4
              obtain ⟨v', ev', rv⟩ := g1 s' ev
              rw [hv] at ev'
              cases ev'
              exact k Z3 v s' l0 ok3 rv w4
          · cases ev : getN kvs3 key with
            | some s' =>
              obtain ⟨v', ev', _⟩ := g1 s' ev
              rw [hn] at ev'
              cases ev'
            | none =>
              rw [ev] at w4
              rw [putN_ok hn]
              have l := ok3.lePut (o := NdO (us3 ++ [(key, z)]) a) (c' := .dN (kvs3 ++ [(key, u)])) e3 e4 trivial trivial
              refine k (Z3.put hh a (NdO (us3 ++ [(key, z)]) a) (.dN (kvs3 ++ [(key, u)]))) z u (l0.trans l) (ok3.put e3 e4 trivial trivial ⟨us3 ++ [(key, z)], upd_same, by rw [List.map_append, List.map_append, q4]; rfl, ?_⟩) (r3.tr l) w4
              rw [List.map_append, List.map_append]
              exact (RpAll.tr l q5).app (.cons (r3.tr l) .nil)
        · exact w3.elim
      · exact w3.elim, kx⟩⟩
abbrev GN := List (Option Int × List PyData)
inductive GnOk (st : Sto) (n0 h : Nat) : KNS → GN → Prop
  | nil : GnOk st n0 h [] []
  | cons {k : Option Int} {j : Nat} {ds : List PyData} {kvs : KNS} {G : GN} (hj : n0 ≤ j) (e : st[j]? = some (.lst ds)) (r : GnOk st n0 h kvs G) : GnOk st n0 h ((k, .o j) :: kvs) ((k, ds) :: G)
def gnD (G : GN) : PyData := .dict (mkN :: G.map fun p => (oD p.1, .list p.2))
def keepO (n0 h : Nat) (sl : Sls) : Prop := ∀ s ∈ sl, ∀ k, s = some (.o k) → k = h ∨ k < n0
def deadS (n0 : Nat) (st : Sto) : Sto := st.take n0 ++ List.replicate (st.length - n0) .dead
def wFrzN (n0 i : Nat) (u : DS) : DS := fun D sl st => match nthS sl i with
  | some (.o h) => match st[h]? with
    | some (.dN kvs) => ∃ G, GnOk st n0 h kvs G ∧ n0 ≤ h ∧ keepO n0 h sl ∧ (∀ c ∈ st.take n0, ∀ k, n0 ≤ k → NoRef k c) ∧ u D (sl.map (frzX h (gnD G))) (deadS n0 st)
    | _ => False
  | _ => u D sl st
theorem wFrzN_ap {n0 i : Nat} {u : DS} {nx bk ct : Sls → Sto → Prop} {rt : DK} {ex : DX} {sl : Sls} {st : Sto} : wFrzN n0 i u ⟨nx, rt, ex, bk, ct⟩ sl st = (match nthS sl i with
  | some (.o h) => match st[h]? with
    | some (.dN kvs) => ∃ G, GnOk st n0 h kvs G ∧ n0 ≤ h ∧ keepO n0 h sl ∧ (∀ c ∈ st.take n0, ∀ k, n0 ≤ k → NoRef k c) ∧ u ⟨nx, rt, ex, bk, ct⟩ (sl.map (frzX h (gnD G))) (deadS n0 st)
    | _ => False
  | _ => u ⟨nx, rt, ex, bk, ct⟩ sl st) := rfl
theorem dead_lo {n0 k : Nat} {st : Sto} (h : k < n0) : (deadS n0 st)[k]? = st[k]? := by
  unfold deadS
  by_cases hk : k < st.length
  · rw [List.getElem?_append_left (by rw [List.length_take]; omega), List.getElem?_take, if_pos h]
  · rw [show st.length - n0 = 0 by omega, List.replicate_zero, List.append_nil, List.take_of_length_le (by omega)]
theorem dead_hi {n0 k : Nat} {st : Sto} {c : Ct} (h : n0 ≤ k) (e : (deadS n0 st)[k]? = some c) : c = .dead := by
  unfold deadS at e
  rw [List.getElem?_append_right (by rw [List.length_take]; omega)] at e
  exact (List.mem_replicate.mp (List.mem_of_getElem? e)).2
theorem dead_len {n0 : Nat} {st : Sto} (h : n0 ≤ st.length) : (deadS n0 st).length = st.length := by
  unfold deadS
  rw [List.length_append, List.length_take, List.length_replicate]
  omega
theorem gn_zip {st : Sto} {n0 h : Nat} {kvs : KNS} {G : GN} (g : GnOk st n0 h kvs G) {us : List (Option Int × V)} (e : us.map (·.1) = kvs.map (·.1)) : (us.map fun p => oD p.1).zip (G.map fun p => PyData.list p.2) = G.map fun p => (oD p.1, .list p.2) := by
  induction g generalizing us with
  | nil => simp
  | cons hj e' r ih =>
    cases us with
    | nil => cases e
    | cons p us =>
      simp only [List.map_cons, List.cons.injEq] at e
      rw [List.map_cons, List.map_cons, List.map_cons, List.zip_cons_cons, ih e.2, e.1]
theorem gn_im {Z : Zs} {n0 h : Nat} {W' : Addr → Prop} {H' : Hp} (hH : ∀ j b ds, n0 ≤ j → Z.φ[j]? = some b → Z.st[j]? = some (.lst ds) → Im K W' H' (.ref b) (.list ds)) {kvs : KNS} {G : GN} (g : GnOk Z.st n0 h kvs G) : ∀ {us : List (Option Int × V)}, RpAll K Z (us.map (·.2)) (kvs.map (·.2)) → ImAll K W' H' (us.map (·.2)) (G.map fun p => PyData.list p.2) := by
  induction g with
  | nil => intro us r; cases us with
    | nil => exact .nil
    | cons _ _ => cases r
  | cons hj e r ih =>
    intro us q
    cases us with
    | nil => cases q
    | cons p us =>
      obtain ⟨k1, v⟩ := p
      cases q with
      | cons r1 r2 =>
        refine .cons ?_ (ih r2)
        obtain ⟨b, c, ev, e1, e2, _⟩ := r1
        rw [e] at e2
        cases e2
        rw [show v = .ref b from ev]
        exact hH _ b _ hj e1 e
theorem lockN_ok {Z : Zs} {σ : L2.St} {sl : Sls} {h n0 : Nat} {kvs : KNS} {G : GN} {a : Addr} {o' : HO} {us : List (Option Int × V)} {od : Obj} (ok : Ok K Z) (so : SlOk K Z σ sl) (l0 : Le Z0 Z) (hn : Z0.st.length = n0) (hn2 : n0 ≤ h) (e : Z.st[h]? = some (.dN kvs)) (e1 : Z.φ[h]? = some a)
    (q1 : Z.H a = some (NdO us a)) (q2 : us.map (·.1) = kvs.map (·.1)) (q3 : RpAll K Z (us.map (·.2)) (kvs.map (·.2))) (g : GnOk Z.st n0 h kvs G) (ho : keepO n0 h sl) (nr : ∀ c ∈ Z.st.take n0, ∀ k, n0 ≤ k → NoRef k c) (eo : o' = .frz od (NdO us a)) :
    ∃ Z' : Zs, Z'.H = upd Z.H a o' ∧ Z'.st = deadS n0 Z.st ∧ Le Z0 Z' ∧ Kp Z Z' ∧ Ok K Z' ∧ SlOk K Z' σ (sl.map (frzX h (gnD G))) := by
  have hh : h < Z.st.length := (List.getElem?_eq_some_iff.mp e).1
  have hφ : h < Z.φ.length := by rw [ok.len]; exact hh
  have hWa : Z.W a := .inl ⟨h, _, e1, e, trivial⟩
  have hW : ∀ b, (Zs.mk Z.φ (deadS n0 Z.st) (upd Z.H a o') Z.F).W b → Z.W b := fun b w => by
    rcases w with ⟨j, c, z1, z2, z3⟩ | w
    · have z2' : (deadS n0 Z.st)[j]? = some c := z2
      by_cases z : j < n0
      · rw [dead_lo z] at z2'
        exact .inl ⟨j, c, z1, z2', z3⟩
      · rw [dead_hi (by omega) z2'] at z3
        exact z3.elim
    · exact .inr w
  have sy : Stay Z.W (Zs.mk Z.φ (deadS n0 Z.st) (upd Z.H a o') Z.F).W Z.H (upd Z.H a o') := ⟨fun b o eb nb _ => by
    have : b ≠ a := fun z => nb (by rw [z]; exact hWa)
    rw [upd_ne this]; exact eb, fun b o eb nb _ w => nb (hW b w)⟩
  have nwj : ∀ j b, n0 ≤ j → Z.φ[j]? = some b → ¬ (Zs.mk Z.φ (deadS n0 Z.st) (upd Z.H a o') Z.F).W b := fun j b hj ej w => by
    rcases w with ⟨i, c, z1, z2, z3⟩ | w
    · have z2' : (deadS n0 Z.st)[i]? = some c := z2
      obtain rfl := ok.one ej z1
      rw [dead_hi hj z2'] at z3
      exact z3
    · exact ok.fd _ (List.mem_of_getElem? ej) w
  have hdc : Im K (Zs.mk Z.φ (deadS n0 Z.st) (upd Z.H a o') Z.F).W (upd Z.H a o') (.ref a) (gnD G) := by
    have key : ImAll K (Zs.mk Z.φ (deadS n0 Z.st) (upd Z.H a o') Z.F).W (upd Z.H a o') (us.map (·.2)) (G.map fun p => PyData.list p.2) := by
      refine gn_im (fun j b ds hj ej es => ?_) g q3
      obtain ⟨vs, r1, r2⟩ := ok.ct j b _ ej es
      have hb : b ≠ a := fun z => by rw [z, q1] at r1; cases r1
      exact .lst (by rw [upd_ne hb]; exact r1) (nwj j b hj ej) (ImAll.tr sy r2)
    have q := Im.dcN (K := K) (by rw [eo]; exact upd_same) (nwj h a hn2 e1) key
    rw [gn_zip g q2] at q
    exact q
  have rp : ∀ {v : V} {y : Sl}, (∀ k, n0 ≤ k → y ≠ .o k) → Rp K Z v y → Rp K (Zs.mk Z.φ (deadS n0 Z.st) (upd Z.H a o') Z.F) v y := fun {v y} ne r => by
    cases y with
    | d x => exact Im.tr sy r
    | o j =>
      obtain ⟨b, c, z1, z2, z3, z4⟩ := r
      have hj : j < n0 := Nat.lt_of_not_le fun z => ne j z rfl
      exact ⟨b, c, z1, z2, by show (deadS n0 Z.st)[j]? = some c; rw [dead_lo hj]; exact z3, z4⟩
    | r u => exact r
    | l _ _ _ => exact ⟨r.1, r.2.trans sy⟩
    | f ns => obtain ⟨b, z1, z2⟩ := r; exact ⟨b, z1, z2.tr sy⟩
  have hd : ∀ b o, Z.H b = some o → ∃ o2, upd Z.H a o' b = some o2 := fun b o eb => by
    by_cases z : b = a
    · rw [z, upd_same]; exact ⟨_, rfl⟩
    · rw [upd_ne z]; exact ⟨o, eb⟩
  have h0 : Z0.H a = none := by
    obtain ⟨ψ, eφ, hψ⟩ := l0.pre
    rw [eφ] at e1
    rw [List.getElem?_append_right (by rw [← l0.len, hn]; exact hn2)] at e1
    exact hψ a (List.mem_of_getElem? e1)
  refine ⟨Zs.mk Z.φ (deadS n0 Z.st) (upd Z.H a o') Z.F, rfl, rfl, ⟨l0.pre, l0.len, fun j c ec => ?_, fun b o eb nb t => ?_, l0.fgn, fun b o eb => ?_⟩, sy, ⟨?_, ok.nd, fun j b c z1 z2 => ?_, fun b f => ?_, ok.fd, ?_⟩, ?_⟩
  · obtain ⟨c', z1, z2⟩ := l0.liv j c ec
    have hj : j < n0 := by rw [← hn]; exact (List.getElem?_eq_some_iff.mp ec).1
    exact ⟨c', by show (deadS n0 Z.st)[j]? = _; rw [dead_lo hj]; exact z1, z2⟩
  · have : b ≠ a := fun z => by rw [z, h0] at eb; cases eb
    show upd Z.H a o' b = _
    rw [upd_ne this]
    exact l0.frm b o eb nb t
  · obtain ⟨o2, e2⟩ := l0.dom b o eb
    exact hd b o2 e2
  · show Z.φ.length = (deadS n0 Z.st).length
    rw [dead_len (by omega)]; exact ok.len
  · have q1' : Z.φ[j]? = some b := z1
    have q2' : (deadS n0 Z.st)[j]? = some c := z2
    by_cases z : j < n0
    · rw [dead_lo z] at q2'
      have hba : b ≠ a := fun y => by
        subst y
        have := ok.one e1 q1'
        omega
      have q := ok.ct j b c q1' q2'
      have n := nr c (List.mem_of_getElem? (i := j) (by rw [List.getElem?_take, if_pos z]; exact q2'))
      have all : ∀ {vs : List V} {ss : List Sl}, (∀ s ∈ ss, ∀ k, n0 ≤ k → s ≠ .o k) → RpAll K Z vs ss → RpAll K (Zs.mk Z.φ (deadS n0 Z.st) (upd Z.H a o') Z.F) vs ss := by
        intro vs ss hss r
        induction r with
        | nil => exact .nil
        | cons p r ih => exact .cons (rp (hss _ List.mem_cons_self) p) (ih fun x m => hss x (List.mem_cons_of_mem _ m))
      cases c with
      | lst ds => obtain ⟨vs, r1, r2⟩ := q; exact ⟨vs, by show upd Z.H a o' b = _; rw [upd_ne hba]; exact r1, ImAll.tr sy r2⟩
      | lsS xs => obtain ⟨vs, r1, r2⟩ := q; exact ⟨vs, by show upd Z.H a o' b = _; rw [upd_ne hba]; exact r1, all (fun s m k hk => n k hk s m) r2⟩
      | dK kvs => obtain ⟨us, r1, r2, r3⟩ := q; exact ⟨us, by show upd Z.H a o' b = _; rw [upd_ne hba]; exact r1, r2, ImAll.tr sy r3⟩
      | dT kvs => obtain ⟨us, r1, r2, r3⟩ := q; exact ⟨us, by show upd Z.H a o' b = _; rw [upd_ne hba]; exact r1, r2, ImAll.tr sy r3⟩
      | dN fs =>
        obtain ⟨us, r1, r2, r3⟩ := q
        refine ⟨us, by show upd Z.H a o' b = _; rw [upd_ne hba]; exact r1, r2, ?_⟩
        refine all (fun s m k hk => ?_) r3
        obtain ⟨p, hp, rfl⟩ := List.mem_map.mp m
        exact n k hk p hp
      | ins C fs =>
        obtain ⟨dx, us, r1, r2, r3⟩ := q
        refine ⟨dx, us, by show upd Z.H a o' b = _; rw [upd_ne hba]; exact r1, r2, ?_⟩
        refine all (fun s m k hk => ?_) r3
        obtain ⟨p, hp, rfl⟩ := List.mem_map.mp m
        exact n k hk p hp
      | exc c fs => obtain ⟨cv, d, hc, r1, r2⟩ := q; exact ⟨cv, d, hc, by show upd Z.H a o' b = _; rw [upd_ne hba]; exact r1, r2.tr sy⟩
      | dead =>
        show upd Z.H a o' b ≠ none
        rw [upd_ne hba]; exact q
    · rw [dead_hi (by omega) q2']
      have hj : j < Z.st.length := by rw [← ok.len]; exact (List.getElem?_eq_some_iff.mp q1').1
      obtain ⟨o, eo⟩ := ctok_some (ok.ct j b _ q1' (List.getElem?_eq_getElem hj))
      obtain ⟨o2, e2⟩ := hd b o eo
      show upd Z.H a o' b ≠ none
      rw [e2]
      exact fun z => by cases z
  · obtain ⟨o, eo⟩ := ok.fo b f
    exact hd b o eo
  · refine tabs_upd ok.tb (fun ps z => ?_) (fun cc qq z => ?_) (fun y w => .inl (hW y w)) (fun ps z => by rw [eo] at z; cases z) (fun xs z => by rw [eo] at z; cases z)
    · rw [q1] at z; cases z
    · unfold LamX.CodeO at z
      rw [q1] at z; exact nd_code (Option.some.inj z)
  · refine ⟨by rw [List.length_map]; exact so.len, fun j s ej => ?_⟩
    rw [List.getElem?_map] at ej
    cases q : sl[j]? with
    | none => rw [q] at ej; cases ej
    | some y =>
      rw [q] at ej
      simp only [Option.map_some, Option.some.injEq] at ej
      cases y with
      | none => simp [frzX] at ej
      | some y =>
        obtain ⟨v, ev, rv⟩ := so.has j y q
        refine ⟨v, ev, ?_⟩
        cases y with
        | o k =>
          simp only [frzX] at ej
          split at ej
          · rename_i ek
            subst ek
            simp only [Option.some.injEq] at ej
            subst ej
            obtain ⟨b, c, z1, z2, z3, z4⟩ := rv
            rw [e1] at z2
            cases z2
            subst z1
            exact hdc
          · rename_i ek
            simp only [Option.some.injEq] at ej
            subst ej
            refine rp (fun k2 hk2 z => ?_) rv
            cases z
            rcases ho _ (List.mem_of_getElem? q) k rfl with z | z
            · exact ek z
            · omega
        | d x => simp only [frzX, Option.some.injEq] at ej; subst ej; exact rp (fun _ _ z => nomatch z) rv
        | r u => simp only [frzX, Option.some.injEq] at ej; subst ej; exact rp (fun _ _ z => nomatch z) rv
        | l _ _ _ => simp only [frzX, Option.some.injEq] at ej; subst ej; exact rp (fun _ _ z => nomatch z) rv
        | f ns => simp only [frzX, Option.some.injEq] at ej; subst ej; exact rp (fun _ _ z => nomatch z) rv
theorem dss_frzN (n0 i : Nat) (hn : Z0.st.length = n0) (h : DSs X E Z0 rest u) : DSs X E Z0 rest (wFrzN n0 i u) :=
  ⟨⟨fun pins s σ H D I ⟨Z, sl, Dd, hh, l0, ok, so, w, en⟩ => by
    subst hh
    unfold wFrzN at w
    split at w
    · rename_i hd es
      split at w
      · rename_i kvs ec
        obtain ⟨G, w1, w2, w3, w4, w5⟩ := w
        have hφ : hd < Z.φ.length := by rw [ok.len]; exact (List.getElem?_eq_some_iff.mp ec).1
        have e1 : Z.φ[hd]? = some Z.φ[hd] := List.getElem?_eq_getElem hφ
        obtain ⟨us, q1, q2, q3⟩ := ok.ct hd _ _ e1 ec
        obtain ⟨od, es, ep, _, _, _, _, _, _, I1⟩ := nd_fix I q1
        obtain ⟨Z', g1, g2, l', k', ok', so'⟩ := lockN_ok (o' := .frz od (NdO us Z.φ[hd])) ok so l0 hn w2 ec e1 q1 q2 q3 w1 w3 w4 rfl
        rw [← g1] at I1
        exact h.run.run pins s σ _ D I1 ⟨Z', _, Dd, rfl, l', ok', so', by rw [g2]; exact w5, en.at k'⟩
      · exact w.elim
    · exact h.run.run pins s σ _ D I ⟨Z, sl, Dd, rfl, l0, ok, so, w, en⟩⟩⟩
def fSumL : FA := fun ss st Q => match ss with
  | [.d (.list xs), .d (.list zs)] => ∃ yss : List (List PyData), xs = yss.map PyData.list ∧ (zs ++ yss.flatten).length ≤ sizeLine ∧ Q (.d (.list (zs ++ yss.flatten))) st
  | _ => False
theorem im_lists {W : Addr → Prop} {H : Hp} : ∀ {yss : List (List PyData)} {xs : List V}, ImAll K W H xs (yss.map PyData.list) → ∃ vss : List (List V), LstsAt H xs vss ∧ ImAll K W H vss.flatten yss.flatten ∧ (vss = [] ↔ yss = []) ∧ vss.flatten.length = yss.flatten.length
  | [], _, r => by cases r; exact ⟨[], .nil, .nil, by simp, rfl⟩
  | ys :: yss, _, r => by
    rw [List.map_cons] at r
    cases r with
    | cons q r =>
      cases q with
      | lst h n q =>
        rename_i vs
        obtain ⟨vss, h1, h2, _, h4⟩ := im_lists r
        refine ⟨vs :: vss, .cons h h1, ?_, by simp, ?_⟩
        · rw [List.flatten_cons, List.flatten_cons]; exact q.append h2
        · rw [List.flatten_cons, List.flatten_cons, List.length_append, List.length_append, h4, q.length]
theorem cd_sumL : CallD K (L2.rSumL K) fSumL := by
  intro Z vs ss Qd Q ok ra w k
  unfold fSumL at w
  split at w
  · rename_i xs zs
    obtain ⟨v, u, rfl, r1, r2⟩ := rp2 ra
    obtain ⟨yss, rfl, hl, q⟩ := w
    have r1' : Z.Im K v (.list (yss.map PyData.list)) := r1
    have r2' : Z.Im K u (.list zs) := r2
    cases r1' with
    | lst h1 n1 q1 =>
      cases r2' with
      | lst h2 n2 q2 =>
        obtain ⟨vss, g1, g2, g3, g4⟩ := im_lists q1
        refine ⟨_, _, _, _, vss, rfl, .inl (.inl h1), h2, g1, ?_, fun e => ?_, fun e p hp => ?_⟩
        · rw [List.length_append, g4, q2.length, ← List.length_append]; exact hl
        · have : yss = [] := g3.mp e
          subst this
          rw [List.flatten_nil, List.append_nil] at q
          exact k.now ok r2 q
        · exact k.newL ok (q2.append g2) q p hp
  · exact w.elim
def fSortedGO : FA := fun ss st Q => match ss with
  | [s] => match vw st s with
    | some (.list ds) => AllAlike ds ∧ Sortable ds ∧ (∀ d ∈ ds, d.depth ≤ 50) ∧ Q (.o st.length) (st ++ [.lst (dsort ds)])
    | _ => False
  | _ => False
theorem cd_sortedGO {K : Frag} : CallD K (rSortedG K) fSortedGO := by
  intro Z vs ss Qd Q ok ra w k
  unfold fSortedGO at w
  split at w
  · obtain ⟨v, rfl, r⟩ := rp1 ra
    split at w
    · rename_i ds e
      obtain ⟨a, xs, rfl, h, q⟩ := r.list ok e
      obtain ⟨w1, w2, w3, w⟩ := w
      exact ⟨a, xs, ds, Z.W, rfl, .of h, q, w1, w2, w3, fun ws p hi hp => k.ownL ok hi w p hp⟩
    · exact w.elim
  · exact w.elim
end
end Pz
set_option maxRecDepth 100000
namespace Pz
variable [PenC]
open PySem PySem.Spec PyProof.Rows L2 TL
def colL (b : Int) : List Nat → Int → Int
  | [], f => f
  | c :: cs, f => colL b cs (if c = 32 then f + 1 else (f / b + 1) * b)
theorem tab_step {b : Int} (h0 : 0 < b) (f : Int) : (f / b + 1) * b = f - f % b + b := by
  have := Int.mul_ediv_add_emod f b
  rw [Int.add_mul, Int.one_mul, Int.mul_comm]; omega
theorem colL_le {b : Int} (h0 : 0 < b) (h1 : b ≤ 10 ^ 9) : ∀ (l : List Nat) (f : Int), 0 ≤ f → 0 ≤ colL b l f ∧ colL b l f ≤ f + 10 ^ 9 * l.length
  | [], f, h => ⟨h, by simp [colL]⟩
  | c :: cs, f, h => by
    have e := tab_step h0 f
    have := Int.emod_nonneg f (by omega : b ≠ 0)
    have := Int.emod_lt_of_pos f h0
    have q : 0 ≤ (if c = 32 then f + 1 else (f / b + 1) * b) ∧ (if c = 32 then f + 1 else (f / b + 1) * b) ≤ f + 10 ^ 9 := by
      split
      · omega
      · rw [e]; omega
    have := colL_le h0 h1 cs _ q.1
    simp only [colL, List.length_cons]
    omega
def rtA : List Nat → List Nat → Nat → List Nat × Nat
  | [], acc, t => (acc, t)
  | c :: l, acc, t => if c = 9 then rtA l (acc ++ [t]) 0 else rtA l acc (t + 1)
def runsL (l : List Nat) : List Nat := (rtA l [] 0).1
def tailL (l : List Nat) : Nat := (rtA l [] 0).2
def indP (rs : List Nat) : List Nat := (rs.map fun r => List.replicate r 32 ++ [9]).flatten
def indL (rs : List Nat) (t : Nat) : List Nat := indP rs ++ List.replicate t 32
theorem indP_cons {r : Nat} {rs : List Nat} : indP (r :: rs) = List.replicate r 32 ++ 9 :: indP rs := by simp [indP]
theorem indP_app {a b : List Nat} : indP (a ++ b) = indP a ++ indP b := by simp [indP]
def blankL (l : List Nat) : Prop := ∀ c ∈ l, c = 32 ∨ c = 9
theorem rt_bound : ∀ (l acc : List Nat) (t : Nat), (rtA l acc t).1.sum + (rtA l acc t).1.length + (rtA l acc t).2 = acc.sum + acc.length + t + l.length
  | [], acc, t => by simp [rtA]
  | c :: l, acc, t => by
    unfold rtA
    split
    · rw [rt_bound l (acc ++ [t]) 0]; simp; omega
    · rw [rt_bound l acc (t + 1)]; simp; omega
theorem rt_len (l : List Nat) : (runsL l).sum + (runsL l).length + tailL l = l.length := by
  have := rt_bound l [] 0
  simpa [runsL, tailL] using this
abbrev Run (x : Int) : Prop := 0 ≤ x ∧ x ≤ 60
def nsort (l : List Nat) : List Nat := (isort (l.map fun n : Nat => (n : Int))).map Int.toNat
theorem nsort_perm (l : List Nat) : (nsort l).Perm l := by
  have := (isort_perm (l.map fun n : Nat => (n : Int))).map Int.toNat
  rw [List.map_map] at this
  have e : (l.map (Int.toNat ∘ fun n : Nat => (n : Int))) = l := by
    conv => rhs; rw [← List.map_id l]
    exact List.map_congr_left fun a _ => by simp
  rw [e] at this
  exact this
theorem ind_of : ∀ (l acc : List Nat) (t : Nat), blankL l → indL (rtA l acc t).1 (rtA l acc t).2 = indP acc ++ List.replicate t 32 ++ l
  | [], acc, t, _ => by simp [rtA, indL]
  | c :: l, acc, t, h => by
    have h2 : blankL l := fun x m => h x (List.mem_cons_of_mem _ m)
    unfold rtA
    split
    · rename_i e
      rw [ind_of l _ 0 h2, indP_app, e]
      simp [indP]
    · rename_i e
      have : c = 32 := (h c List.mem_cons_self).resolve_right e
      rw [ind_of l _ _ h2, this, List.replicate_succ']
      simp
theorem ind_self {l : List Nat} (h : blankL l) : indL (runsL l) (tailL l) = l := by
  have := ind_of l [] 0 h
  simpa [runsL, tailL, indP] using this
def colR (w : Int) : List Nat → Int → Int
  | [], f => f
  | r :: rs, f => colR w rs (((f + r) / w + 1) * w)
theorem colL_sp (b : Int) : ∀ (n : Nat) (l : List Nat) (f : Int), colL b (List.replicate n 32 ++ l) f = colL b l (f + n)
  | 0, l, f => by simp
  | n + 1, l, f => by
    rw [List.replicate_succ, List.cons_append, colL, if_pos rfl, colL_sp b n]
    congr 1; omega
theorem colL_ind (b : Int) (t : Nat) : ∀ (rs : List Nat) (f : Int), colL b (indL rs t) f = colR b rs f + t
  | [], f => by have := colL_sp b t [] f; rw [List.append_nil] at this; simpa [indL, indP, colR, colL] using this
  | r :: rs, f => by
    have e : indL (r :: rs) t = List.replicate r 32 ++ 9 :: indL rs t := by simp [indL, indP_cons]
    rw [e, colL_sp, colL, if_neg (by decide), colL_ind b t rs]
    rfl
def divs (w : Nat) (rs : List Nat) : Nat := (rs.map fun r => r / w).sum
theorem divs_perm {w : Nat} {a b : List Nat} (h : a.Perm b) : divs w a = divs w b := (h.map _).sum_nat
end Pz
set_option maxRecDepth 100000
namespace Pz
variable [PenC]
def colN (w : Nat) (rs : List Nat) (t : Nat) : Nat := w * (rs.length + divs w rs) + t
theorem colN_perm {w : Nat} {a b : List Nat} {t : Nat} (h : a.Perm b) : colN w a t = colN w b t := by rw [colN, colN, h.length_eq, divs_perm h]
open PySem PySem.Spec PyProof.Rows L2 TL
def gLen (d : PyData) : PyData := match d with
  | .str x => .int x.length
  | _ => .none
def unlike (f g : Int → Int) (d : PyData) : Option PyData := match d with
  | .int w => if f w = g w then none else some (.int 1)
  | _ => none
theorem len_st2 : (Str.ofString " \t").length = 2 := by rw [len_lit]; decide +kernel
end Pz
set_option maxRecDepth 100000
namespace Pz
variable [PenC]
open PySem PySem.Spec PyProof.Rows L2 TL
def muT : List Int := [0, 1, (-1), (-1), 0, (-1), 1, (-1), 0, 0, 1, (-1), 0, (-1), 1, 1, 0, (-1), 0, (-1), 0, 1, 1, (-1), 0, 0, 1, 0, 0, (-1), (-1), (-1), 0, 1, 1, 1, 0, (-1), 1, 1, 0, (-1), (-1), (-1), 0, 0, 1, (-1), 0, 0, 0, 1, 0, (-1), 0, 1, 0, 1, 1, (-1), 0, (-1), 1, 0, 0, 1, (-1), (-1), 0, 1, (-1), (-1), 0, (-1), 1, 0, 0, 1, (-1), (-1), 0, 0, 1, (-1), 0, 1, 1, 1, 0, (-1), 0, 1, 0, 1, 1, 1, 0, (-1), 0, 0, 0, (-1), (-1), (-1), 0, (-1), 1, (-1), 0, (-1), (-1), 1, 0, (-1), (-1), 1, 0, 0, 1, 1, 0, 0, 1, 1, 0, 0, 0, (-1), 0, 1, (-1), (-1), 0, 1, 1, 0, 0, (-1), (-1), (-1), 0, 1, 1, 1, 0, 1, 1, 0, 0, (-1), 0, (-1), 0, 0, (-1), 1, 0, (-1), 1, 1, 0, 1, 0, (-1), 0, (-1), 1, (-1), 0, 0, (-1), 0, 0, (-1), (-1), 0, 0, 1, 1, (-1), 0, (-1), (-1), 1, 0, 1, (-1), 1, 0, 0, (-1), (-1), 0, (-1), 1, (-1), 0, (-1), 0, (-1), 0]
def mu (q : Nat) : Int := muT.getD q 0
def gA (w a : Nat) : Int := if w % a = 0 then mu (w / a) else 0
def gL (w : Nat) : Nat → Nat → List Int
  | _, 0 => []
  | a, n + 1 => gA w a :: gL w (a + 1) n
def onesA (w : Nat) : Nat → Nat → List Nat
  | _, 0 => []
  | a, n + 1 => List.replicate (max 0 (gA w a - gA w (a + 1))).toNat a ++ onesA w (a + 1) n
def twosA (w : Nat) : Nat → Nat → List Nat
  | _, 0 => []
  | a, n + 1 => List.replicate (max 0 (gA w (a + 1) - gA w a)).toNat a ++ twosA w (a + 1) n
def apM (w : Nat) : Nat := max (onesA w 1 w).length (twosA w 1 w).length
def apO (w : Nat) : List Nat := List.replicate (apM w - (onesA w 1 w).length) 0 ++ onesA w 1 w
def apT (w : Nat) : List Nat := List.replicate (apM w - (twosA w 1 w).length) 0 ++ twosA w 1 w
abbrev mL (W k : Nat) : List Int := List.replicate (W - k + 1) 0 ++ gL W (W - k + 1) (k + 1)
end Pz
set_option maxRecDepth 100000
namespace Pz
variable [PenC]
open PySem PySem.Spec PyProof.Rows L2 TL
abbrev nI (l : List Nat) : List PyData := l.map fun n => PyData.int (n : Nat)
theorem colL_rt {z : Str} (h : blankL (tl z)) (w : Int) : colL w (tl z) 0 = colR w (runsL (tl z)) 0 + (tailL (tl z) : Nat) := by
  conv => lhs; rw [← ind_self h]
  exact colL_ind w _ _ 0
def apChk (w : Nat) : Bool :=
  let o := onesA w 1 w
  let t := twosA w 1 w
  (List.range w).all (fun v => v == 0 || (o.foldl (fun n a => n + a / v) 0 == t.foldl (fun n a => n + a / v) 0)) && (o.foldl (fun n a => n + a / w) 0 != t.foldl (fun n a => n + a / w) 0)
def IsFd (a : List Nat) (r : Nat) (b : List Nat) (s : Nat) (d : PyData) : Prop := (d = .none ∧ nsort a = nsort b ∧ r = s) ∨ ∃ w : Nat, d = .int w ∧ 1 ≤ w ∧ w ≤ 1001 ∧ colN w a r ≠ colN w b s ∧ ∀ v, 1 ≤ v → v < w → colN v a r = colN v b s
theorem IsFd.symm {a b : List Nat} {r s : Nat} {d : PyData} (h : IsFd a r b s d) : IsFd b s a r d := by
  rcases h with ⟨h, h1, h2⟩ | ⟨w, h, h1, h2, h3, h4⟩
  · exact .inl ⟨h, h1.symm, h2.symm⟩
  · exact .inr ⟨w, h, h1, h2, fun e => h3 e.symm, fun v x y => (h4 v x y).symm⟩
theorem same_cols {a b : List Nat} {r s w : Nat} (h1 : nsort a = nsort b) (h2 : r = s) : colN w a r = colN w b s := by
  rw [← colN_perm (nsort_perm a), ← colN_perm (nsort_perm b), h1, h2]
theorem IsFd.uniq {a b : List Nat} {r s : Nat} {d e : PyData} (h : IsFd a r b s d) (k : IsFd a r b s e) : d = e := by
  rcases h with ⟨h, h1, h2⟩ | ⟨w, h, h1, h2, h3, h4⟩
  · rcases k with ⟨k, _⟩ | ⟨w, _, _, _, k3, _⟩
    · rw [h, k]
    · exact absurd (same_cols h1 h2) k3
  · rcases k with ⟨k, k1, k2⟩ | ⟨w', k, k1, k2, k3, k4⟩
    · exact absurd (same_cols k1 k2) h3
    · rw [h, k]
      rcases Nat.lt_trichotomy w w' with x | x | x
      · exact absurd (k4 w h1 x) h3
      · rw [x]
      · exact absurd (h4 w' k1 x) k3
def unlikeW (f g : Int → Int) (d : PyData) : Option PyData := match d with
  | .int w => if f w = g w then none else some (.int w)
  | _ => none
theorem IsFd.rep {a b : List Nat} {r s : Nat} {d : PyData} (h : IsFd a r b s d) : RepOk (.list [d, d]) := by
  rcases h with ⟨rfl, _⟩ | ⟨w, rfl, h1, h2, _⟩
  · exact ((RepL.cons rp_n (RepL.cons rp_n RepL.nil)).lst).r (by decide) (by decide)
  · exact ((RepL.cons (rp_i (small100 (by omega) (by omega))) (RepL.cons (rp_i (small100 (by omega) (by omega))) RepL.nil)).lst).r (by decide) (by decide)
theorem IsFd.at {a b : List Nat} {r s w : Nat} {d : PyData} (h : IsFd a r b s d) (h1 : 1 ≤ w) (h3 : colN w a r ≠ colN w b s) (h4 : ∀ v, 1 ≤ v → v < w → colN v a r = colN v b s) (h2 : w ≤ 1001) : d = .int w :=
  h.uniq (.inr ⟨w, rfl, h1, h2, h3, h4⟩)
end Pz
set_option maxRecDepth 100000
namespace Pz
open PySem PySem.Spec PyProof.Rows L2 TL
variable [PenC]
def inW (ws : List PyData) (i : Int) : Bool := ws.any fun z => PyData.eqv z (.int i)
def missD (ws : List PyData) : Nat → Int → PyData
  | 0, _ => .none
  | n + 1, lo => if inW ws lo then missD ws n (lo + 1) else .int lo
def isNo (d : PyData) : Bool := match d with
  | .none => true
  | _ => false
def decD (ws : List PyData) (l : Int) (tf : Bool) : Bool :=
  if tf then decide (l = 0) || (inW ws 1 && decide (max 2 l ≤ lmax (ws.map toI))) else isNo (missD ws l.toNat 1) && decide (l < lmax (ws.map toI))
def lackF (ws : List PyData) (d : PyData) : Option PyData := match d with
  | .int i => if inW ws i then none else some (.int i)
  | _ => none
def greatF (l : Int) (d : PyData) : Option PyData := match d with
  | .int i => if 2 ≤ i ∧ l ≤ i then some (.int i) else none
  | _ => none
end Pz
set_option maxRecDepth 100000
namespace Pz
open PySem PySem.Spec PyProof.Rows L2 TL
variable [PenC]
def cL (ds : List Int) (m : Nat) : Nat → List Int
  | 0 => []
  | k + 1 => (ds.getD (m - k - 1) 0 - ((List.range ((m - (m - k)) / (m - k))).map fun i => (cL ds m k).getD (2 * (m - k) + i * (m - k) - (m - k + 1)) 0).sum) :: cL ds m k
def cA (ds : List Int) (a : Nat) : Int := if a = 0 then 0 else (cL ds ds.length (ds.length + 1 - a)).headD 0
def onesC (c : Nat → Int) : Nat → Nat → List Nat
  | _, 0 => []
  | a, n + 1 => List.replicate (max 0 (c a - c (a + 1))).toNat a ++ onesC c (a + 1) n
def twosC (c : Nat → Int) : Nat → Nat → List Nat
  | _, 0 => []
  | a, n + 1 => List.replicate (max 0 (-(c a - c (a + 1)))).toNat a ++ twosC c (a + 1) n
def apN (c : Nat → Int) (m : Nat) : Nat := max (onesC c 1 m).length (twosC c 1 m).length
def apX (c : Nat → Int) (m : Nat) : List Nat := List.replicate (apN c m - (onesC c 1 m).length) 0 ++ onesC c 1 m
def apY (c : Nat → Int) (m : Nat) : List Nat := List.replicate (apN c m - (twosC c 1 m).length) 0 ++ twosC c 1 m
def dvI (T b : Nat) : Int := if b % T = 0 then 1 else 0
def kdP (ds : List Int) (m k : Nat) : List (Int × PyData) := (List.range k).map fun i => (((m - i : Nat) : Int), .int (cA ds (m - i)))
def kdC (ds : List Int) (m k : Nat) : KD := (kdP ds m k).map fun p => (.inl p.1, p.2)
def memL (ws : List PyData) : List Int := (List.range (if ws = [] then 0 else lmax (ws.map toI)).toNat).map fun i => if inW ws (i + 1 : Nat) then 1 else 0
def okC (ds : List Int) : Prop := (apX (cA ds) ds.length).sum + (apX (cA ds) ds.length).length ≤ 900 ∧ (apY (cA ds) ds.length).sum + (apY (cA ds) ds.length).length ≤ 900
instance {ds : List Int} : Decidable (okC ds) := by unfold okC; infer_instance
def gInt : PyData → Int
  | .str x => x.length
  | _ => 0
def memI (l : List Int) : List Int := (List.range (if l = [] then 0 else lmax l).toNat).map fun i => if (l.any fun a => decide (a = (i + 1 : Nat))) then 1 else 0
def everyI : List Int := ((List.range 63).map fun i => (1 + (i : Nat) : Int)) ++ ([1000, 10 ^ 9] : List Int)
def goodI (l : List Int) : Bool := (l.all fun x => decide (1 ≤ x ∧ x ≤ 6)) && decide (l.length ≤ 6) && decide (okC (memI l)) && ((apX (cA (memI l)) (memI l).length).all fun r => decide (r < 61)) && ((apY (cA (memI l)) (memI l).length).all fun r => decide (r < 61)) && ((everyI.filter fun w => decide ((memI l).getD (w.toNat - 1) 0 ≠ 0)) == l)
def someI (b : Nat) : List Int := ((List.range 6).map fun i => ((1 + i : Nat) : Int)).filter fun w => decide (b / 2 ^ (w.toNat - 1) % 2 = 1)
end Pz
set_option maxRecDepth 100000
namespace Pz
open PySem PySem.Spec PyProof.Rows L2 TL
variable [PenC]
def fdN (cs : List Int) : Nat := (cs.getD 0 0).toNat
def fdT (cs : List Int) : Int := cs.getD (fdN cs) 0 / ((fdN cs : Int) + 1)
def fdR (cs : List Int) : Int := cs.getD (fdN cs) 0 % ((fdN cs : Int) + 1)
def dsI (cs : List Int) : List Int := (List.range (fdN cs)).map fun i => (cs.getD i 0 - fdR cs) / ((i + 1 : Nat) : Int) - fdT cs
def fltAt (cs : List Int) (w : Nat) : Option PyData :=
  if (cs.getD (w - 1) 0 - fdR cs) % (w : Int) ≠ 0 then some (.tuple [.str (Str.ofString "remainder"), .int (w : Nat)])
  else if cA (dsI cs) w < cA (dsI cs) (w + 1) then some (.tuple [.str (Str.ofString "rise"), .int (w : Nat)]) else none
def fltL (cs : List Int) : Nat → Option PyData
  | 0 => none
  | w + 1 => match fltAt cs (w + 1) with
    | some d => some d
    | none => fltL cs w
def fltT (cs : List Int) : PyData := match fltL cs (fdN cs) with
  | some d => d
  | none => if 0 < fdN cs ∧ fdT cs < cA (dsI cs) 1 then .tuple [.str (Str.ofString "tabs")] else .none
def shapeB (d : PyData) : Bool := match d with
  | .list (d0 :: ds) => (d0 :: ds).all (intFrom · 0) && decide (toI d0 ≤ 60) && decide (((d0 :: ds).length : Int) = toI d0 + 1)
  | _ => false
def fltD (d : PyData) : PyData := match d with
  | .list ds => if shapeB (.list ds) = true then fltT (ds.map toI) else .tuple [.str (Str.ofString "shape")]
  | _ => .tuple [.str (Str.ofString "shape")]
structure ShapeI (cs : List Int) : Prop where
  nn : ∀ x ∈ cs, 0 ≤ x
  le : fdN cs ≤ 60
  ln : cs.length = fdN cs + 1
  hd : cs.getD 0 0 = (fdN cs : Int)
def geC (rs : List Nat) (w : Nat) : Nat := (rs.filter fun r => decide (w ≤ r)).length
structure ColsOf (cs : List Int) (rs : List Nat) (t : Nat) : Prop where
  n : fdN cs = rs.sum + rs.length + t
  at_ : ∀ w, 0 < w → w ≤ fdN cs + 1 → cs.getD (w - 1) 0 = (w * (rs.length + divs w rs) + t : Nat)
def kdF (cs : List Int) (k : Nat) : KD := (.inl ((fdN cs + 1 : Nat) : Int), .int 0) :: kdC (dsI cs) (fdN cs) k
def lwF (cs : List Int) (k : Nat) : List PyData := (List.range (fdN cs + 2)).map fun i => .int (if fdN cs - k < i then cA (dsI cs) i else 0)
structure ItmI (d : PyData) : Prop where
  r : RepP 200 1 d
  i : ∀ i, d = .int i → i.natAbs < 10 ^ 60
def colsD (z : Str) : List PyData := (List.range (z.length + 1)).map fun i => PyData.int (colR ((i + 1 : Nat) : Int) (runsL (tl z)) 0 + (tailL (tl z) : Nat))
end Pz
set_option maxRecDepth 100000
namespace Pz
open PySem PySem.Spec PyProof.Rows L2 TL
variable [PenC]
def spS (n : Nat) : Str := SX.S (List.replicate n 32)
def dcL (ds : List Int) : List Int := (List.range ds.length).map fun i => cA ds (i + 1) - cA ds (i + 2)
def szZ (ds : List Int) : Nat := max (onesC (cA ds) 1 ds.length).sum (twosC (cA ds) 1 ds.length).sum + apN (cA ds) ds.length
def cz (dd : List Int) (k : Nat) : List PyData := (List.range (dd.length + 2)).map fun i => PyData.int (if i + k ≤ dd.length then 0 else cA dd i)
def halfI (x : Int) : Int := (if x < 0 then -x else x) / 2 * (if x < 0 then -1 else 1)
end Pz
set_option maxRecDepth 100000
namespace Pz
open PySem PySem.Spec PyProof.Rows L2 TL
variable [PenC]
def colZ (w : Int) (z : Str) : Int := colR w (runsL (tl z)) 0 + (tailL (tl z) : Nat)
theorem colZ_L {z : Str} (h : blankL (tl z)) (w : Int) : colZ w z = colL w (tl z) 0 := (colL_rt h w).symm
theorem colZ_nn {z : Str} (h : blankL (tl z)) {w : Int} (h0 : 0 < w) (h1 : w ≤ 10 ^ 9) : 0 ≤ colZ w z ∧ colZ w z ≤ 10 ^ 9 * z.length := by
  rw [colZ_L h, Pz.len_tl]
  have := colL_le h0 h1 (tl z) 0 (Int.le_refl _)
  simpa using this
end Pz
set_option maxRecDepth 100000
namespace Pz
open PySem PySem.Spec PyProof.Rows L2 TL
variable [PenC]
abbrev Rn (x : Int) : Prop := 0 ≤ x ∧ x ≤ 10000
def lsD : PyData → List PyData
  | .list l => l
  | .tuple l => l
  | _ => []
def isSeq (x : PyData) : Prop := ∃ l, x = .list l ∨ x = .tuple l
def szD (x : PyData) (m : Int) : Nat := ((lsD x).map toN).sum + (lsD x).length + m.toNat
def stD (x : PyData) (m : Int) : PyData := .str (SX.S (indL ((lsD x).map toN) m.toNat))
def dueD (x : PyData) (m : Int) : PyData := if 1000 < szD x m then .tuple [.str "long", .int (szD x m)] else .list [stD x m]
def preD (x : PyData) (m : Int) : Prop := isSeq x ∧ Ints Rn (lsD x) ∧ (lsD x).length ≤ 1000 ∧ 0 ≤ m ∧ m ≤ 100000
abbrev okZ (z : Str) (w : Int) : Prop := blankL (tl z) ∧ z.length ≤ 1000 ∧ 0 < w ∧ w ≤ 10 ^ 9
def spZ (z : Str) (w : Int) : PyData := .str (SX.S (indL [] (colZ w z).toNat))
def dueE (z : Str) (w : Int) : PyData := if 1000 < colZ w z then .tuple [.str "long", .int (colZ w z)] else .list [spZ z w]
end Pz
set_option maxRecDepth 100000
namespace Pz
open PySem PySem.Spec PyProof.Rows L2 TL
variable [PenC]
def rsI (cs : List Int) : List Nat := List.replicate (fdT cs - cA (dsI cs) 1).toNat 0 ++ onesC (cA (dsI cs)) 1 (fdN cs)
def inD : PyData → PyData
  | .list ds => .str (SX.S (indL (rsI (ds.map toI)) (fdR (ds.map toI)).toNat))
  | _ => .none
def hdI (d : PyData) : PyData := match fltD d with
  | .none => inD d
  | f => .list [f]
end Pz
set_option maxRecDepth 100000
namespace Pz
open PySem PySem.Spec PyProof.Rows L2 TL
variable [PenC]
def gMax (z : Str) : Int := lmax ((runsL (tl z) ++ [tailL (tl z)]).map fun n : Nat => (n : Int))
def gMaxD (d : PyData) : Int := match d with
  | .str z => gMax z
  | _ => 0
def lonG (ls : List PyData) : Int := if ls = [] then 0 else lmax (ls.map gMaxD)
def sgnI (x y : Int) : Int := (if y < x then 1 else 0) - (if x < y then 1 else 0)
def sgnL (a b : Str) : List PyData := (rng 1 (max (gMax a) (gMax b) + 2 - 1).toNat).map fun d => .int (sgnI (colR (toI d) (runsL (tl a)) 0 + (tailL (tl a) : Nat)) (colR (toI d) (runsL (tl b)) 0 + (tailL (tl b) : Nat)))
end Pz
set_option maxRecDepth 100000
namespace Pz
open PySem PySem.Spec PyProof.Rows L2 TL
variable [PenC]
def trip (s : Nat) (e : PyData) (f : Nat → Int) : PyData := .tuple [.int (s : Nat), e, .int (f s)]
def zZ (f : Nat → Int) : List Nat → List PyData
  | [] => []
  | [s] => [trip s .none f]
  | s :: t :: r => trip s (.int ((t : Int) - 1)) f :: zZ f (t :: r)
def clo (k : Int) : List PyData → List PyData
  | [] => []
  | [.tuple [a, _, c]] => [.tuple [a, .int k, c]]
  | [d] => [d]
  | d :: r => d :: clo k r
def stA (f : Nat → Int) : Nat → List Nat
  | 0 => []
  | k + 1 => if k = 0 ∨ f k ≠ f (k + 1) then stA f k ++ [k + 1] else stA f k
def jA (f : Nat → Int) : Nat → List PyData
  | 0 => []
  | k + 1 => if k = 0 ∨ f k ≠ f (k + 1) then clo (k : Int) (jA f k) ++ [trip (k + 1) .none f] else jA f k
def stF (f : Nat → Int) (d : PyData) : Option PyData := match d with
  | .tuple [.int i, _] => if i.toNat = 0 ∨ f i.toNat ≠ f (i.toNat + 1) then some (.int (i + 1)) else none
  | _ => none
def ziF (f : Nat → Int) (d : PyData) : PyData := match d with
  | .tuple [.int s, e] => trip s.toNat e f
  | _ => .none
def sgnF (a b : Str) (w : Nat) : Int := sgnI (colR w (runsL (tl a)) 0 + (tailL (tl a) : Nat)) (colR w (runsL (tl b)) 0 + (tailL (tl b) : Nat))
end Pz
set_option maxRecDepth 100000
namespace Pz
open PySem PySem.Spec PyProof.Rows L2 TL
variable [PenC]
def trnD (d : PyData) : PyData := match d with
  | .tuple [a, b, .int c] => .tuple [a, b, .int (0 - c)]
  | _ => .none
theorem gMax_mem (z : Str) : (∀ x ∈ runsL (tl z), ((x : Nat) : Int) ≤ gMax z) ∧ ((tailL (tl z) : Nat) : Int) ≤ gMax z := by
  obtain ⟨h1, h2⟩ := lmax_mem (l := (runsL (tl z) ++ [tailL (tl z)]).map fun n : Nat => (n : Int)) (by simp)
  exact ⟨fun x m => h2 _ (List.mem_map_of_mem (List.mem_append_left _ m)), h2 _ (List.mem_map_of_mem (by simp))⟩
theorem sum_le_nat {B : Nat} : ∀ {l : List Nat}, (∀ x ∈ l, x ≤ B) → l.sum ≤ B * l.length
  | [], _ => by simp
  | x :: l, h => by
    have h1 := h x List.mem_cons_self
    have h2 := sum_le_nat (l := l) fun y m => h y (List.mem_cons_of_mem _ m)
    rw [List.sum_cons, List.length_cons, Nat.mul_add, Nat.mul_one]
    omega
end Pz
set_option maxRecDepth 100000
namespace Pz
open PySem PySem.Spec PyProof.Rows L2 TL
variable [PenC]
def tri (a b : List Nat) (x : Int) : PyData := .tuple [.str (SX.S a), .str (SX.S b), .int x]
def unitL (m : Nat) : List Int := List.replicate (m - 1) 0 ++ [1]
def undD (ws : List PyData) (l : Int) (tf : Bool) : PyData :=
  if decD ws l tf = true then .none
  else if tf = true then (if inW ws 1 = true then tri (indL [0] 0) (indL [] l.toNat) (max 2 l) else tri (indL [0] 0) (indL [] 1) 1)
  else match missD ws l.toNat 1 with
    | .int m => tri (indL (apX (cA (unitL m.toNat)) m.toNat) 0) (indL (apY (cA (unitL m.toNat)) m.toNat) 0) m
    | _ => tri (indL [0] 0) (indL [l.toNat] 0) (l + 1)
def sgR (w : Nat) (ra : List Nat) (ta : Nat) (rb : List Nat) (tb : Nat) : Int := sgnI (colR (w : Nat) ra 0 + (ta : Nat)) (colR (w : Nat) rb 0 + (tb : Nat))
structure Und (ws : List PyData) (l : Int) (tf : Bool) (ra : List Nat) (ta : Nat) (rb : List Nat) (tb : Nat) (x : Nat) : Prop where
  a : ∀ r ∈ ra, ((r : Nat) : Int) ≤ l
  b : ∀ r ∈ rb, ((r : Nat) : Int) ≤ l
  la' : (ta : Int) ≤ l
  lb' : (tb : Int) ≤ l
  fr : tf = true → (∀ r ∈ ra, r = 0) ∧ ∀ r ∈ rb, r = 0
  x1 : 1 ≤ x
  x2 : x ≤ 1000
  la : ra.sum + ra.length + ta ≤ 900
  lb : rb.sum + rb.length + tb ≤ 900
  sg : ∃ s : Int, (∀ w : Nat, .int (w : Nat) ∈ ws → 1 ≤ w → sgR w ra ta rb tb = s) ∧ sgR x ra ta rb tb ≠ s
def okU (m : Nat) : Bool := decide (szZ (unitL m) ≤ 900)
end Pz
set_option maxRecDepth 100000
namespace Pz
open PySem PySem.Spec PyProof.Rows L2 TL
variable [PenC]
def rowF (w : Nat) (d : PyData) : Option PyData := match d with
  | .tuple [.int s, .none, z] => if s ≤ (w : Int) then some z else none
  | .tuple [.int s, .int t, z] => if s ≤ (w : Int) ∧ (w : Int) ≤ t then some z else none
  | _ => none
def sameB (a b : Str) (ws : List PyData) : Bool := ws.all fun d => decide (sgnF a b (toI d).toNat = sgnF a b (toI (ws.headD .none)).toNat)
def isInd (d : PyData) : Bool := match d with
  | .str z => decide (z.length ≤ 1000) && (tl z).all fun c => decide (c = 32) || decide (c = 9)
  | _ => false
def blC (c : Nat) : Bool := decide (c = 32) || decide (c = 9)
def sgnB (d : PyData) : Bool := match d with
  | .str z => (tl z).all blC
  | _ => false
def tabF (z : Str) : Bool := decide ((runsL (tl z)).sum = 0)
def sof (d : PyData) : Str := match d with
  | .str z => z
  | _ => Str.ofString ""
def showC (ws : List PyData) (l : Int) (a b : Str) (w : Int) (tf : Bool) : Bool :=
  decide (max (gMax a) (gMax b) ≤ l) && (!tf || (tabF a && tabF b)) && sameB a b ws && !decide (sgnF a b w.toNat = sgnF a b (toI (ws.headD .none)).toNat)
def showB (ws : List PyData) (l : Int) (v : PyData) (tf : Bool) : Bool := match v with
  | .tuple [x, y, w] => isInd x && isInd y && intBetw w 1 1000000000 && showC ws l (sof x) (sof y) (toI w) tf
  | _ => false
def Sps (l : Nat) (ds : List PyData) : Prop := ∀ d ∈ ds, ∃ n, n ≤ l ∧ d = .str (spS n)
theorem Sps.nums {l : Nat} : ∀ {ds : List PyData}, Sps l ds → ∃ ns : List Nat, ds = ns.map (fun n => .str (spS n)) ∧ ∀ n ∈ ns, n ≤ l
  | [], _ => ⟨[], rfl, fun n m => by cases m⟩
  | d :: ds, h => by
    obtain ⟨n, hn, rfl⟩ := h d List.mem_cons_self
    obtain ⟨ns, rfl, hs⟩ := Sps.nums (ds := ds) fun d m => h d (List.mem_cons_of_mem _ m)
    exact ⟨n :: ns, rfl, fun k m => by rcases List.mem_cons.mp m with rfl | m; exact hn; exact hs k m⟩
theorem Sps.text {l : Nat} {ds : List PyData} (h : Sps l ds) (hl : 0 < ds.length) : ∃ (rs : List Nat) (t : Nat), asStrs ds = some (rs.map spS ++ [spS t]) ∧ (∀ r ∈ rs, r ≤ l) ∧ t ≤ l ∧ rs.length + 1 = ds.length := by
  obtain ⟨ns, rfl, hn⟩ := h.nums
  rw [List.length_map] at hl
  rcases List.eq_nil_or_concat ns with rfl | ⟨rs, t, rfl⟩
  · simp at hl
  · rw [List.concat_eq_append] at hn ⊢
    refine ⟨rs, t, ?_, fun r m => hn r (by simp [m]), hn t (by simp), by simp⟩
    rw [show (fun n => PyData.str (spS n)) = PyData.str ∘ spS from rfl, ← List.map_map, asStrs_map]
    simp
end Pz
namespace Pz
open PySem PySem.Spec PyProof.Rows L2 TL
variable [PenC]
def sameG (a b : Str) (ws : List PyData) (d : PyData) : Option PyData := if sgnF a b (toI d).toNat = sgnF a b (toI (ws.headD .none)).toNat then none else some (.int 1)
section
variable {ws : List PyData} {l : Int} {ra : List Nat} {ta : Nat} {rb : List Nat} {tb x : Nat}
end
end Pz
namespace Pz
open PySem PySem.Spec PyProof.Rows L2 TL
variable [PenC]
end Pz
namespace Pz
open PySem PySem.Spec PyProof.Rows L2 TL
variable [PenC]
end Pz
set_option maxRecDepth 100000
namespace Pz
open PySem PySem.Spec PyProof.Rows L2 TL
variable [PenC]
def rowsA : List Nat → List Nat → List (List Nat)
  | acc, [] => [acc]
  | acc, c :: l => if c = 10 then acc :: rowsA [] l else rowsA (acc ++ [c]) l
def rowsL (l : List Nat) : List (List Nat) := rowsA [] l
theorem rowsA_len : ∀ (l acc : List Nat), ((rowsA acc l).map List.length).sum + (rowsA acc l).length = acc.length + l.length + 1
  | [], acc => by simp [rowsA]
  | c :: l, acc => by
    rw [rowsA]
    split
    · have := rowsA_len l []
      simp only [List.map_cons, List.sum_cons, List.length_cons, List.length_nil] at this ⊢
      omega
    · have := rowsA_len l (acc ++ [c])
      simp only [List.length_append, List.length_cons, List.length_nil] at this ⊢
      omega
theorem rowsL_len (l : List Nat) : ((rowsL l).map List.length).sum + (rowsL l).length = l.length + 1 := by
  have := rowsA_len l []
  simpa [rowsL] using this
theorem rowsA_acc : ∀ (l acc : List Nat), rowsA acc l = match rowsA [] l with
    | x :: xs => (acc ++ x) :: xs
    | [] => []
  | [], acc => by simp [rowsA]
  | c :: l, acc => by
    rw [rowsA, rowsA]
    by_cases h : c = 10
    · rw [if_pos h, if_pos h]; simp
    · rw [if_neg h, if_neg h, rowsA_acc l (acc ++ [c]), rowsA_acc l ([] ++ [c])]
      cases rowsA [] l with
      | nil => rfl
      | cons x xs => simp
theorem rowsL_one : ∀ {x : List Nat}, 10 ∉ x → rowsL x = [x]
  | [], _ => rfl
  | c :: x, h => by
    have hc : c ≠ 10 := fun z => h (by rw [z]; exact List.mem_cons_self)
    have ih := rowsL_one (x := x) fun m => h (List.mem_cons_of_mem _ m)
    unfold rowsL at *
    rw [rowsA, if_neg hc, rowsA_acc, ih]
    rfl
theorem tw_mem {p : Nat → Bool} {c : Nat} : ∀ {l : List Nat}, c ∈ l.takeWhile p → p c = true
  | [], m => by cases m
  | a :: l, m => by
    rw [List.takeWhile_cons] at m
    cases h : p a with
    | true =>
      rw [h, if_pos rfl] at m
      rcases List.mem_cons.mp m with rfl | m
      · exact h
      · exact tw_mem m
    | false => rw [h] at m; cases m
def ldL (l : List Nat) : List Nat := l.takeWhile blC
def rsL (l : List Nat) : List Nat := l.dropWhile blC
theorem ld_rs (l : List Nat) : ldL l ++ rsL l = l := List.takeWhile_append_dropWhile ..
def stp (c : Nat) : Int := if c = 40 ∨ c = 91 ∨ c = 123 then 1 else if c = 41 ∨ c = 93 ∨ c = 125 then -1 else 0
def dpL : List Nat → Int → Option Int
  | [], d => some d
  | c :: l, d => if d + stp c < 0 then none else dpL l (d + stp c)
def cdL (l : List Nat) : List Nat := l.takeWhile fun c => decide (c ≠ 35)
def bgL : List Nat → Bool
  | [] => false
  | c :: _ => decide (c ≠ 35)
abbrev Ln := Nat × List Nat × List Nat
def addL (l : List Nat) : List Ln → List Ln
  | [] => []
  | [(n, i, b)] => [(n, i, b ++ 10 :: l)]
  | x :: y :: r => x :: addL l (y :: r)
def stepL (found : List Ln) (d : Int) (n : Nat) (l : List Nat) : List Ln :=
  if 0 < d then addL l found else if bgL (rsL l) = true then found ++ [(n, ldL l, rsL l)] else found
def goL : List Ln → Int → Nat → List (List Nat) → Sum (List Ln × Int) Nat
  | found, d, _, [] => .inl (found, d)
  | found, d, n, l :: r => match dpL (cdL l) d with
    | none => .inr n
    | some d' => goL (stepL found d n l) d' (n + 1) r
inductive LR where
  | ok (ls : List Ln)
  | err (c : Str) (fs : List (Str × PyData))
def logL (l : List Nat) : LR :=
  if ((rowsL l).all fun r => decide ((ldL r).length ≤ 1000)) = true then
    match goL [] 0 0 (rowsL l) with
    | .inr n => .err "UnbalancedBracket" [("number", .int (n : Nat))]
    | .inl (found, d) => if 0 < d then .err "UnbalancedBracket" [("number", .int (((rowsL l).length : Int) - 1))]
      else if 20 < found.length then .err "TooMany" [("count", .int (found.length : Nat))] else .ok found
  else .err "InvalidText" []
def lnS (l : List Nat) : List Ln := match logL l with
  | .ok ls => ls
  | _ => []
def okTx (l : List Nat) : Prop := ∃ ls, logL l = .ok ls
def lnD (l : Ln) : PyData := .tuple [.int (l.1 : Nat), .str (SX.S l.2.1), .str (SX.S l.2.2)]
theorem cd_blank {l : List Nat} (h : bgL (rsL l) = false) : dpL (cdL l) 0 = some 0 := by
  have e : ∀ x : List Nat, (∀ c ∈ x, blC c = true) → dpL x 0 = some 0 := by
    intro x
    induction x with
    | nil => intro _; rfl
    | cons c x ih =>
      intro hx
      have hc := hx c List.mem_cons_self
      have hs : stp c = 0 := by
        unfold blC at hc
        rcases (by simpa using hc : c = 32 ∨ c = 9) with rfl | rfl <;> rfl
      rw [dpL, hs, if_neg (by decide)]
      exact ih fun y m => hx y (List.mem_cons_of_mem _ m)
  refine e _ ?_
  have hl := ld_rs l
  unfold cdL
  rw [← hl]
  cases hr : rsL l with
  | nil =>
    rw [List.append_nil]
    intro c m
    have m2 := (List.takeWhile_subset _ m : c ∈ ldL l)
    exact tw_mem m2
  | cons a r =>
    rw [hr] at h
    have ha : a = 35 := by simpa [bgL] using h
    have hb : ∀ c ∈ ldL l, blC c = true := fun c m => tw_mem m
    intro c m
    have : ∀ x : List Nat, (∀ c ∈ x, blC c = true) → (x ++ a :: r).takeWhile (fun c => decide (c ≠ 35)) = x := by
      intro x
      induction x with
      | nil => intro _; rw [List.nil_append, List.takeWhile_cons, ha]; rfl
      | cons y x ih =>
        intro hx
        have hy := hx y List.mem_cons_self
        have hy2 : decide (y ≠ 35) = true := by
          unfold blC at hy
          rcases (by simpa using hy : y = 32 ∨ y = 9) with rfl | rfl <;> rfl
        rw [List.cons_append, List.takeWhile_cons, if_pos hy2, ih fun z m => hx z (List.mem_cons_of_mem _ m)]
    rw [this _ hb] at m
    exact hb c m
theorem addL_snoc {l : List Nat} {n : Nat} {i b : List Nat} : ∀ f : List Ln, addL l (f ++ [(n, i, b)]) = f ++ [(n, i, b ++ 10 :: l)]
  | [] => rfl
  | [x] => rfl
  | x :: y :: r => by
    have := addL_snoc (l := l) (n := n) (i := i) (b := b) (y :: r)
    rw [List.cons_append, List.cons_append, addL, ← List.cons_append, this]
    rfl
def phD : PyData → Option (List PyData)
  | .str z => if ((rowsL (tl z)).all fun r => decide ((ldL r).length ≤ 1000)) = true then some ((rowsL (tl z)).map fun r => .str (SX.S r)) else none
  | _ => none
def lgD : PyData → LR
  | .str z => logL (tl z)
  | _ => .err "InvalidText" []
end Pz
set_option maxRecDepth 100000
namespace Pz
open PySem PySem.Spec PyProof.Rows L2 TL
variable [PenC]
abbrev tpI (l : List Int) : PyData := .tuple (l.map .int)
def trT (s : Nat) (e : PyData) (f : Nat → List Int) : PyData := .tuple [.int (s : Nat), e, tpI (f s)]
def zT (f : Nat → List Int) : List Nat → List PyData
  | [] => []
  | [s] => [trT s .none f]
  | s :: t :: r => trT s (.int ((t : Int) - 1)) f :: zT f (t :: r)
def stT (f : Nat → List Int) : Nat → List Nat
  | 0 => []
  | k + 1 => if k = 0 ∨ f k ≠ f (k + 1) then stT f k ++ [k + 1] else stT f k
def jT (f : Nat → List Int) (n : Nat) : List PyData := zT f (stT f n)
def sfT (f : Nat → List Int) (d : PyData) : Option PyData := match d with
  | .tuple [.int i, _] => if i.toNat = 0 ∨ f i.toNat ≠ f (i.toNat + 1) then some (.int (i + 1)) else none
  | _ => none
def ziT (f : Nat → List Int) (d : PyData) : PyData := match d with
  | .tuple [.int s, e] => trT s.toNat e f
  | _ => .none
def swT (d : PyData) : PyData := match d with
  | .tuple [.tuple [b, v], e] => .tuple [b, e, v]
  | d => d
def toZ : PyData → Str
  | .str z => z
  | _ => ⟨#[]⟩
def lastI (s : List Int) : Int := s.getLastD 0
theorem lastI_snoc {s : List Int} {c : Int} : lastI (s ++ [c]) = c := by simp [lastI]
def nxS (s f : List Int) (c : Int) : List Int := if lastI s < c ∧ f ≠ [] then s ++ [c] else s.filter fun x => decide (x ≤ c)
def lvG : List Int → List Int → List Int → List Int
  | _, f, [] => f
  | s, f, c :: r => if lastI (nxS s f c) = c then lvG (nxS s f c) (f ++ [((nxS s f c).length : Int) - 1]) r else f
def lvF (cs : List Int) : List Int := lvG [0] [] cs
def Asc (s : List Int) : Prop := s.Pairwise (· < ·) ∧ ∃ r, s = 0 :: r
theorem Asc.ne {s : List Int} (h : Asc s) : s ≠ [] := by obtain ⟨_, r, rfl⟩ := h; exact nofun
theorem Asc.fil {s : List Int} (h : Asc s) {c : Int} (hc : 0 ≤ c) : Asc (s.filter fun x => decide (x ≤ c)) := by
  obtain ⟨h1, r, rfl⟩ := h
  refine ⟨h1.filter _, r.filter fun x => decide (x ≤ c), ?_⟩
  rw [List.filter_cons_of_pos (by simpa using hc)]
theorem Asc.le_last {s : List Int} (h : Asc s) : ∀ x ∈ s, x ≤ lastI s := by
  obtain ⟨a, y, rfl⟩ : ∃ a x, s = a ++ [x] := ⟨_, _, (List.dropLast_concat_getLast h.ne).symm⟩
  rw [lastI_snoc]
  intro x m
  rcases List.mem_append.mp m with m | m
  · have := (List.pairwise_append.mp h.1).2.2 x m y (by simp); omega
  · rw [List.mem_singleton.mp m]; omega
theorem Asc.snoc {s : List Int} (h : Asc s) {c : Int} (hc : lastI s < c) : Asc (s ++ [c]) := by
  refine ⟨List.pairwise_append.mpr ⟨h.1, List.pairwise_singleton _ _, fun x m y my => ?_⟩, ?_⟩
  · rw [List.mem_singleton.mp my]; have := h.le_last x m; omega
  · obtain ⟨_, r, rfl⟩ := h; exact ⟨r ++ [c], rfl⟩
theorem Asc.nx {s f : List Int} (h : Asc s) {c : Int} (hc : 0 ≤ c) : Asc (nxS s f c) := by
  unfold nxS
  split
  · next q => exact h.snoc q.1
  · exact h.fil hc
theorem nxS_len {s f : List Int} {c : Int} : (nxS s f c).length ≤ s.length + 1 := by
  unfold nxS
  split
  · simp
  · have := List.length_filter_le (fun x => decide (x ≤ c)) s; omega
theorem Asc.len {s : List Int} (h : Asc s) : 0 < s.length := List.length_pos_iff.mpr h.ne
theorem asc0 : Asc [0] := ⟨List.pairwise_singleton _ _, [], rfl⟩
theorem lvG_bd {B : Int} : ∀ (cs s f : List Int), Asc s → (∀ c ∈ cs, 0 ≤ c) → (∀ x ∈ f, 0 ≤ x ∧ x ≤ B) → (s.length : Int) + cs.length ≤ B + 1 → (∀ x ∈ lvG s f cs, 0 ≤ x ∧ x ≤ B) ∧ (lvG s f cs).length ≤ f.length + cs.length
  | [], s, f, h, hc, hf, hB => ⟨hf, Nat.le_add_right _ _⟩
  | c :: r, s, f, h, hc, hf, hB => by
    rw [lvG]
    have hc0 := hc c List.mem_cons_self
    have h2 := h.nx (f := f) hc0
    have h3 := nxS_len (s := s) (f := f) (c := c)
    have h4 := h2.len
    rw [List.length_cons] at hB
    split
    · obtain ⟨g1, g2⟩ := lvG_bd (B := B) r (nxS s f c) (f ++ [((nxS s f c).length : Int) - 1]) h2 (fun x m => hc x (List.mem_cons_of_mem _ m)) (fun x m => by
        rcases List.mem_append.mp m with m | m
        · exact hf x m
        · rw [List.mem_singleton.mp m]; omega) (by omega)
      refine ⟨g1, ?_⟩
      rw [List.length_append, List.length_singleton] at g2
      rw [List.length_cons]; omega
    · exact ⟨hf, by omega⟩
theorem lvF_bd {cs : List Int} (hc : ∀ c ∈ cs, 0 ≤ c) : (∀ x ∈ lvF cs, 0 ≤ x ∧ x ≤ cs.length) ∧ (lvF cs).length ≤ cs.length := by
  have := lvG_bd (B := cs.length) cs [0] [] asc0 hc (fun x m => by cases m) (by simp; omega)
  rw [List.length_nil, Nat.zero_add] at this
  exact this
def afS (s : List Int) (c : Int) : PyData := if lastI s < c then .list ((s ++ [c]).map .int) else if lastI (s.filter fun x => decide (x ≤ c)) = c then .list ((s.filter fun x => decide (x ≤ c)).map .int) else .none
def lvE (zs : List Str) (w : Nat) : List Int := lvF (zs.map (colZ (w : Int)))
def vwD (zs : List Str) : List PyData := jT (lvE zs) (lonG (zs.map .str) + 1).toNat
def GoodL (m : Int) (z : Str) : Prop := blankL (tl z) ∧ gMax z ≤ m ∧ (runsL (tl z)).length ≤ 8
theorem GoodL.len {m : Int} {z : Str} (h : GoodL m z) (h0 : 0 ≤ m) : (z.length : Int) ≤ 9 * m + 8 := by
  obtain ⟨h1, h2, h3⟩ := h
  obtain ⟨g1, g2⟩ := gMax_mem z
  have hr := rt_len (tl z)
  rw [← Pz.len_tl] at hr
  have hs := sum_le_nat (B := m.toNat) (l := runsL (tl z)) (fun x mx => by have := g1 x mx; omega)
  have hm : m.toNat * (runsL (tl z)).length ≤ m.toNat * 8 := Nat.mul_le_mul_left _ h3
  omega
end Pz
set_option maxRecDepth 100000
namespace Pz
open PySem PySem.Spec PyProof.Rows L2 TL
variable [PenC]
theorem rowsA_app : ∀ (x acc y : List Nat), rowsA acc (x ++ 10 :: y) = rowsA acc x ++ rowsA [] y
  | [], acc, y => by
    rw [List.nil_append, rowsA, rowsA, if_pos rfl]; rfl
  | c :: x, acc, y => by
    rw [List.cons_append, rowsA, rowsA]
    by_cases h : c = 10
    · rw [if_pos h, if_pos h, rowsA_app x [] y]; rfl
    · rw [if_neg h, if_neg h, rowsA_app x _ y]
theorem rowsL_app (x y : List Nat) : rowsL (x ++ 10 :: y) = rowsL x ++ rowsL y := rowsA_app x [] y
theorem rowsL_pre {l : List Nat} (h : 10 ∉ l) (w : List Nat) : rowsL (l ++ w) = match rowsL w with
    | x :: xs => (l ++ x) :: xs
    | [] => [] := by
  have main : ∀ (l acc : List Nat), 10 ∉ l → rowsA acc (l ++ w) = rowsA (acc ++ l) w := by
    intro l
    induction l with
    | nil => intro acc _; rw [List.nil_append, List.append_nil]
    | cons c l ih =>
      intro acc h
      have hc : c ≠ 10 := fun z => h (by rw [z]; exact List.mem_cons_self)
      rw [List.cons_append, rowsA, if_neg hc, ih _ fun m => h (List.mem_cons_of_mem _ m)]
      simp
  unfold rowsL
  rw [main l [] h, List.nil_append, rowsA_acc]
  all_goals (cases rowsA [] w <;> rfl)
theorem rows_join : ∀ {ps : List (List Nat)}, ps ≠ [] → rowsL (TL.joinL [10] ps) = ps.flatMap rowsL
  | [], h => absurd rfl h
  | [p], _ => by simp [TL.joinL]
  | p :: q :: r, _ => by
    have ih := rows_join (ps := q :: r) nofun
    rw [List.flatMap_cons, ← ih, ← rowsL_app]
    rfl
def Pc (p : List Nat) (e : List (List Nat × List Nat)) : Prop := (∀ r ∈ rowsL p, (ldL r).length ≤ 1000) ∧
  ∀ f n rest, goL f 0 n (rowsL p ++ rest) = goL (f ++ e.map fun x => (n, x.1, x.2)) 0 (n + (rowsL p).length) rest
abbrev Pcs := List Nat × List (List Nat × List Nat)
def pgE : Nat → List Pcs → List Ln
  | _, [] => []
  | n, (p, e) :: ps => (e.map fun x => (n, x.1, x.2)) ++ pgE (n + (rowsL p).length) ps
theorem page_go : ∀ (ps : List Pcs) (f : List Ln) (n : Nat), (∀ x ∈ ps, Pc x.1 x.2) → goL f 0 n (ps.flatMap fun x => rowsL x.1) = .inl (f ++ pgE n ps, 0)
  | [], f, n, _ => by rw [List.flatMap_nil, goL, pgE, List.append_nil]
  | (p, e) :: ps, f, n, h => by
    have h1 : Pc p e := h (p, e) List.mem_cons_self
    rw [List.flatMap_cons, h1.2, page_go ps _ _ (fun x m => h x (List.mem_cons_of_mem _ m)), pgE, List.append_assoc]
theorem pgE_snd : ∀ (ps : List Pcs) (n : Nat), (pgE n ps).map (fun x => x.2) = ps.flatMap fun x => x.2
  | [], _ => rfl
  | (p, e) :: ps, n => by
    rw [pgE, List.map_append, pgE_snd ps, List.flatMap_cons, List.map_map]
    congr 1
    exact List.map_id'' (fun _ => rfl) _
theorem page_ok {ps : List Pcs} (h : ∀ x ∈ ps, Pc x.1 x.2) (hc : (ps.flatMap fun x => x.2).length ≤ 20) : logL (TL.joinL [10] (ps.map fun x => x.1)) = .ok (pgE 0 ps) := by
  by_cases hn : ps = []
  · subst hn; rfl
  · have hr : rowsL (TL.joinL [10] (ps.map fun x => x.1)) = ps.flatMap fun x => rowsL x.1 := by
      rw [rows_join (by simpa using hn), List.flatMap_map]
    have hl : (pgE 0 ps).length ≤ 20 := by
      have := congrArg List.length (pgE_snd ps 0)
      rw [List.length_map] at this
      omega
    unfold logL
    rw [hr, if_pos, page_go ps [] 0 h, List.nil_append]
    · dsimp only
      rw [if_neg (by decide), if_neg (by omega)]
    · refine List.all_eq_true.mpr fun r m => ?_
      obtain ⟨x, mx, mr⟩ := List.mem_flatMap.mp m
      exact decide_eq_true ((h x mx).1 r mr)
theorem page_lns {ps : List Pcs} (h : ∀ x ∈ ps, Pc x.1 x.2) (hc : (ps.flatMap fun x => x.2).length ≤ 20) : okTx (TL.joinL [10] (ps.map fun x => x.1)) ∧ lnS (TL.joinL [10] (ps.map fun x => x.1)) = pgE 0 ps := by
  have := page_ok h hc
  exact ⟨⟨_, this⟩, by unfold lnS; rw [this]⟩
theorem pc_fill {p : List Nat} (h : 10 ∉ p) (hb : bgL (rsL p) = false) (hl : (ldL p).length ≤ 1000) : Pc p [] := by
  refine ⟨fun r m => ?_, fun f n rest => ?_⟩
  · rw [rowsL_one h, List.mem_singleton] at m
    rw [m]; exact hl
  · rw [rowsL_one h, List.singleton_append, goL, cd_blank hb]
    dsimp only
    unfold stepL
    rw [if_neg (by decide), hb, if_neg (by decide), List.map_nil, List.append_nil]
    rfl
def runW : List Nat → Int → List (List Nat) → Option (List Nat)
  | b, d, [] => if d = 0 then some b else none
  | b, d, r :: rs => if 0 < d then match dpL (cdL r) d with
      | some d' => runW (b ++ 10 :: r) d' rs
      | none => none
    else none
theorem runW_go {l : List Nat} {k : Nat} {b2 : List Nat} {f : List Ln} {rest : List (List Nat)} : ∀ (ws : List (List Nat)) (b : List Nat) (d : Int) (n : Nat), runW b d ws = some b2 →
    goL (f ++ [(k, l, b)]) d n (ws ++ rest) = goL (f ++ [(k, l, b2)]) 0 (n + ws.length) rest
  | [], b, d, n, h => by
    rw [runW] at h
    by_cases hd : d = 0
    · rw [if_pos hd] at h
      cases h
      rw [hd]; rfl
    · rw [if_neg hd] at h; cases h
  | r :: ws, b, d, n, h => by
    rw [runW] at h
    by_cases hd : 0 < d
    · rw [if_pos hd] at h
      rw [List.cons_append, goL]
      cases e : dpL (cdL r) d with
      | none => rw [e] at h; cases h
      | some d' =>
        rw [e] at h
        dsimp only at h ⊢
        unfold stepL
        rw [if_pos hd, addL_snoc, runW_go ws _ _ _ h, List.length_cons, show n + 1 + ws.length = n + (ws.length + 1) by omega]
    · rw [if_neg hd] at h; cases h
def nameB (w : List Nat) : Bool := match rowsL w with
  | [] => false
  | w0 :: ws => (match w0 with
      | [] => false
      | c :: _ => !blC c && decide (c ≠ 35)) && ws.all (fun r => decide ((ldL r).length ≤ 1000)) && match dpL (cdL w0) 0 with
        | some d => decide (runW w0 d ws = some w)
        | none => false
theorem blank10 {l : List Nat} (h : blankL l) : 10 ∉ l := fun m => by rcases h 10 m with h | h <;> cases h
theorem blC_of {c : Nat} (h : c = 32 ∨ c = 9) : blC c = true := by rcases h with rfl | rfl <;> rfl
theorem blank_dp {l : List Nat} (h : blankL l) (x : List Nat) : dpL (cdL (l ++ x)) 0 = dpL (cdL x) 0 := by
  induction l with
  | nil => rfl
  | cons c l ih =>
    have hc := h c List.mem_cons_self
    have hs : stp c = 0 := by rcases hc with rfl | rfl <;> rfl
    have h35 : decide (c ≠ 35) = true := by rcases hc with rfl | rfl <;> rfl
    rw [List.cons_append, show cdL (c :: (l ++ x)) = c :: cdL (l ++ x) by unfold cdL; rw [List.takeWhile_cons, if_pos h35], dpL, hs, if_neg (by decide)]
    exact ih fun y m => h y (List.mem_cons_of_mem _ m)
theorem ld_app {l : List Nat} (h : blankL l) {c : Nat} {w : List Nat} (hc : blC c = false) : ldL (l ++ c :: w) = l ∧ rsL (l ++ c :: w) = c :: w := by
  induction l with
  | nil => exact ⟨by rw [List.nil_append, ldL, List.takeWhile_cons, hc]; rfl, by rw [List.nil_append, rsL, List.dropWhile_cons, hc]; rfl⟩
  | cons a l ih =>
    have ha := blC_of (h a List.mem_cons_self)
    obtain ⟨i1, i2⟩ := ih fun y m => h y (List.mem_cons_of_mem _ m)
    unfold ldL rsL at *
    exact ⟨by rw [List.cons_append, List.takeWhile_cons, if_pos ha, i1], by rw [List.cons_append, List.dropWhile_cons, if_pos ha, i2]⟩
theorem pc_name {l w : List Nat} (hb : blankL l) (hl : l.length ≤ 1000) (hw : nameB w = true) : Pc (l ++ w) [(l, w)] := by
  unfold nameB at hw
  unfold Pc
  rw [rowsL_pre (blank10 hb)]
  cases e : rowsL w with
  | nil => rw [e] at hw; cases hw
  | cons w0 ws =>
    rw [e] at hw
    dsimp only at hw ⊢
    cases w0 with
    | nil => simp at hw
    | cons c w0 =>
      rw [Bool.and_eq_true, Bool.and_eq_true] at hw
      obtain ⟨⟨h1, h2⟩, h3⟩ := hw
      dsimp only at h1
      rw [Bool.and_eq_true] at h1
      obtain ⟨hc, h35⟩ := h1
      have hc2 : blC c = false := by simpa using hc
      obtain ⟨g1, g2⟩ := ld_app (l := l) hb (c := c) (w := w0) hc2
      refine ⟨fun r m => ?_, fun f n rest => ?_⟩
      · rcases List.mem_cons.mp m with rfl | m
        · rw [g1]; exact hl
        · exact of_decide_eq_true (List.all_eq_true.mp h2 r m)
      · rw [List.cons_append, goL, blank_dp hb]
        cases ed : dpL (cdL (c :: w0)) 0 with
        | none => rw [ed] at h3; cases h3
        | some d =>
          rw [ed] at h3
          dsimp only at h3 ⊢
          unfold stepL
          rw [if_neg (by decide), g1, g2, if_pos (show bgL (c :: w0) = true from h35), runW_go ws _ _ _ (of_decide_eq_true h3), List.length_cons, show n + 1 + ws.length = n + (ws.length + 1) by omega]
          rfl
def inS (l : List Nat) : List Str := (lnS l).map fun x => SX.S x.2.1
theorem page_ins {ps : List Pcs} (h : ∀ x ∈ ps, Pc x.1 x.2) (hc : (ps.flatMap fun x => x.2).length ≤ 20) : inS (TL.joinL [10] (ps.map fun x => x.1)) = (ps.flatMap fun x => x.2).map fun x => SX.S x.1 := by
  unfold inS
  rw [(page_lns h hc).2, ← pgE_snd ps 0, List.map_map]
  rfl
def FillOk (p : List Nat) : Prop := (p.all fun c => decide (c ≠ 10)) = true ∧ bgL (rsL p) = false ∧ p.length ≤ 100 ∧ (p.all fun c => decide (c < 0x110000)) = true
instance (w : List Nat) : Decidable (FillOk w) := inferInstanceAs (Decidable (_ ∧ _ ∧ _ ∧ _))
theorem FillOk.pc {p : List Nat} (h : FillOk p) : Pc p [] ∧ p.length ≤ 1100 ∧ ∀ c ∈ p, c < 0x110000 := by
  obtain ⟨h1, h2, h3, h4⟩ := h
  have hl : (ldL p).length ≤ p.length := (List.takeWhile_sublist _).length_le
  exact ⟨pc_fill (fun m => by have := of_decide_eq_true (List.all_eq_true.mp h1 10 m); exact this rfl) h2 (by omega), by omega, fun c m => of_decide_eq_true (List.all_eq_true.mp h4 c m)⟩
def FillD (d : PyData) : Prop := ∃ fs : List (List Nat), d = .list (fs.map fun p => .str (SX.S p)) ∧ (∀ p ∈ fs, FillOk p) ∧ fs.length ≤ 2
def NameOk (w : List Nat) : Prop := nameB w = true ∧ w.length ≤ 90 ∧ (w.all fun c => decide (c < 0x110000)) = true
instance (w : List Nat) : Decidable (NameOk w) := inferInstanceAs (Decidable (_ ∧ _ ∧ _))
theorem joinL_len : ∀ (ps : List (List Nat)), (TL.joinL [10] ps).length ≤ (ps.map List.length).sum + ps.length
  | [] => by simp [TL.joinL]
  | [p] => by simp [TL.joinL]
  | p :: q :: r => by
    have := joinL_len (q :: r)
    simp only [TL.joinL, List.length_append, List.length_cons, List.length_nil, List.map_cons, List.sum_cons] at this ⊢
    omega
theorem strOk_page {ps : List (List Nat)} (h : ∀ p ∈ ps, ∀ c ∈ p, c < 0x110000) : PyData.strOk (SX.S (TL.joinL [10] ps)) = true :=
  strOk_iff.mpr fun c m => strOk_joinL (a := [10]) (fun c m => by rw [List.mem_singleton.mp m]; decide) h c m
theorem page_all {ps : List Pcs} {zs : List Str} (h : ∀ x ∈ ps, Pc x.1 x.2) (he : (ps.flatMap fun x => x.2).map (fun x => SX.S x.1) = zs) (hl : ps.length ≤ 100) (hb : ∀ x ∈ ps, x.1.length ≤ 1100 ∧ ∀ c ∈ x.1, c < 0x110000) (hz : zs.length ≤ 20) :
    (SX.S (TL.joinL [10] (ps.map fun x => x.1))).length ≤ 200000 ∧ PyData.strOk (SX.S (TL.joinL [10] (ps.map fun x => x.1))) = true ∧ okTx (TL.joinL [10] (ps.map fun x => x.1)) ∧ inS (TL.joinL [10] (ps.map fun x => x.1)) = zs := by
  have hc : (ps.flatMap fun x => x.2).length ≤ 20 := by
    have := congrArg List.length he
    rw [List.length_map] at this; omega
  refine ⟨?_, strOk_page (fun p mp => ?_), (page_lns h hc).1, by rw [page_ins h hc, he]⟩
  · rw [SX.S_len]
    have h1 := joinL_len (ps.map fun x => x.1)
    have h2 := sum_le_nat (B := 1100) (l := (ps.map fun x => x.1).map List.length) (fun y my => by
      obtain ⟨a, ma, rfl⟩ := List.mem_map.mp my
      obtain ⟨x, mx, rfl⟩ := List.mem_map.mp ma
      exact (hb x mx).1)
    simp only [List.length_map] at h1 h2
    have h3 := Nat.mul_le_mul_left 1100 hl
    omega
  · obtain ⟨x, mx, rfl⟩ := List.mem_map.mp mp
    exact (hb x mx).2
end Pz
set_option maxRecDepth 100000
namespace Pz
open PySem PySem.Spec PyProof.Rows L2 TL
variable [PenC]
def spL : List Int → List Int → Nat
  | x :: a, y :: b => if x = y then spL a b + 1 else 0
  | _, _ => 0
def unL (a b : List Int) : List Int := ((List.range (min a.length b.length)).filter fun i => decide (a.getD i 0 ≠ b.getD i 0)).map fun i : Nat => (i : Int)
def vwN (zs : List Str) : Nat := (lonG (zs.map .str) + 1).toNat
def st2 (zs : List Str) : Nat := (stT (lvE zs) (vwN zs)).getD 1 0
def poD (zs : List Str) : Bool := decide ((vwD zs).length = 1) && decide ((lvE zs 1).length = zs.length)
def splD (zs : List Str) : PyData := if (vwD zs).length = 1 then .none else .tuple [.int (st2 zs : Nat), .int (spL (lvE zs 1) (lvE zs (st2 zs)) : Nat)]
end Pz
set_option maxRecDepth 100000
namespace Pz
open PySem PySem.Spec PyProof.Rows L2 TL
variable [PenC]
theorem rowsA_ne : ∀ (l acc : List Nat), rowsA acc l ≠ []
  | [], acc => by simp [rowsA]
  | c :: l, acc => by
    rw [rowsA]
    split
    · exact nofun
    · exact rowsA_ne l _
theorem joinL_cons {p : List Nat} {r : List (List Nat)} (h : r ≠ []) : TL.joinL [10] (p :: r) = p ++ 10 :: TL.joinL [10] r := by
  cases r with
  | nil => exact absurd rfl h
  | cons q r => simp [TL.joinL]
theorem joinL_rowsA : ∀ (l acc : List Nat), TL.joinL [10] (rowsA acc l) = acc ++ l
  | [], acc => by simp [rowsA, TL.joinL]
  | c :: l, acc => by
    rw [rowsA]
    by_cases h : c = 10
    · rw [if_pos h, joinL_cons (rowsA_ne l []), joinL_rowsA l [], h, List.nil_append]
    · rw [if_neg h, joinL_rowsA l _]; simp
theorem joinL_rows (l : List Nat) : TL.joinL [10] (rowsL l) = l := by
  unfold rowsL
  rw [joinL_rowsA]; rfl
def replL : List (List Nat) → List Ln → List (List Nat) → List (List Nat)
  | rows, (n, i, _) :: ls, o :: os => replL (rows.set n (o ++ (rows.getD n []).drop i.length)) ls os
  | rows, _, _ => rows
def PcW (x : Pcs) : Prop := Pc x.1 x.2 ∧ (x.2 = [] ∨ ∃ l w, x.2 = [(l, w)] ∧ x.1 = l ++ w ∧ blankL l ∧ l.length ≤ 1000 ∧ NameOk w)
def subP : List Pcs → List (List Nat) → List Pcs
  | (p, []) :: ps, os => (p, []) :: subP ps os
  | (p, (_, w) :: e) :: ps, o :: os => (o ++ w, [(o, w)]) :: subP ps os
  | ps, _ => ps
theorem repl_sub : ∀ (ps : List Pcs) (P : List (List Nat)) (os : List (List Nat)), (∀ x ∈ ps, PcW x) → (ps.flatMap fun x => x.2).length = os.length → (∀ o ∈ os, blankL o ∧ o.length ≤ 1000) →
    replL (P ++ ps.flatMap fun x => rowsL x.1) (pgE P.length ps) os = P ++ (subP ps os).flatMap fun x => rowsL x.1
  | [], P, os, _, h, _ => by
    have : os = [] := List.length_eq_zero_iff.mp (by simpa using h.symm)
    subst this
    simp [pgE, replL, subP]
  | (p, e) :: ps, P, os, hw, h, ho => by
    have hw2 : ∀ x ∈ ps, PcW x := fun x m => hw x (List.mem_cons_of_mem _ m)
    have h1 := hw (p, e) List.mem_cons_self
    rcases h1.2 with he | ⟨l, w, he, hp, hl, hl2, hn⟩
    · dsimp only at he
      subst he
      rw [pgE, List.map_nil, List.nil_append, subP, List.flatMap_cons, List.flatMap_cons, ← List.append_assoc, ← List.append_assoc]
      have := repl_sub ps (P ++ rowsL p) os hw2 (by simpa using h) ho
      rw [List.length_append] at this
      exact this
    · dsimp only at he hp
      subst he
      subst hp
      cases os with
      | nil => simp at h
      | cons o os =>
        have hob := ho o List.mem_cons_self
        rw [pgE, List.map_cons, List.map_nil, List.singleton_append, replL, subP, List.flatMap_cons, List.flatMap_cons]
        have er := rowsL_pre (blank10 hl) w
        have eo := rowsL_pre (blank10 hob.1) w
        cases ew : rowsL w with
        | nil => exact absurd ew (rowsA_ne _ _)
        | cons w0 ws =>
          rw [ew] at er eo
          dsimp only at er eo
          dsimp only
          rw [er, eo]
          have hg : (P ++ ((l ++ w0) :: ws ++ ps.flatMap fun x => rowsL x.1)).getD P.length [] = l ++ w0 := by
            rw [List.getD_eq_getElem?_getD, List.getElem?_append_right (Nat.le_refl _), Nat.sub_self]; rfl
          rw [hg, List.drop_left, List.set_append_right _ _ (Nat.le_refl _), Nat.sub_self, List.cons_append, List.set_cons_zero]
          have := repl_sub ps (P ++ ((o ++ w0) :: ws)) os hw2 (by simpa using h) (fun x m => ho x (List.mem_cons_of_mem _ m))
          rw [List.length_append] at this
          rw [show P.length + ((l ++ w0) :: ws).length = P.length + ((o ++ w0) :: ws).length by simp]
          rw [List.append_assoc, List.cons_append] at this
          rw [this, List.append_assoc]
theorem subP_ok : ∀ (ps : List Pcs) (os : List (List Nat)), (∀ x ∈ ps, PcW x) → (ps.flatMap fun x => x.2).length = os.length → (∀ o ∈ os, blankL o ∧ o.length ≤ 1000) →
    (∀ x ∈ subP ps os, PcW x) ∧ ((subP ps os).flatMap fun x => x.2).map (fun x => x.1) = os ∧ (subP ps os).length = ps.length ∧ ((subP ps os).flatMap fun x => x.2).map (fun x => x.2) = (ps.flatMap fun x => x.2).map fun x => x.2
  | [], os, _, h, _ => by
    have : os = [] := List.length_eq_zero_iff.mp (by simpa using h.symm)
    subst this
    exact ⟨(fun x m => by cases m), rfl, rfl, rfl⟩
  | (p, e) :: ps, os, hw, h, ho => by
    have hw2 : ∀ x ∈ ps, PcW x := fun x m => hw x (List.mem_cons_of_mem _ m)
    have h1 := hw (p, e) List.mem_cons_self
    rcases h1.2 with he | ⟨l, w, he, hp, hl, hl2, hn⟩
    · dsimp only at he
      subst he
      obtain ⟨g1, g2, g3, g4⟩ := subP_ok ps os hw2 (by simpa using h) ho
      rw [subP]
      refine ⟨fun x m => ?_, by simpa using g2, by simpa using g3, by simpa using g4⟩
      rcases List.mem_cons.mp m with rfl | m
      · exact h1
      · exact g1 x m
    · dsimp only at he hp
      subst he
      subst hp
      cases os with
      | nil => simp at h
      | cons o os =>
        have hob := ho o List.mem_cons_self
        obtain ⟨g1, g2, g3, g4⟩ := subP_ok ps os hw2 (by simpa using h) (fun x m => ho x (List.mem_cons_of_mem _ m))
        rw [subP]
        refine ⟨fun x m => ?_, by simpa using g2, by simpa using g3, by simpa using g4⟩
        rcases List.mem_cons.mp m with rfl | m
        · exact ⟨pc_name hob.1 hob.2 hn.1, .inr ⟨o, w, rfl, rfl, hob.1, hob.2, hn⟩⟩
        · exact g1 x m
theorem page_repl {ps : List Pcs} {os : List (List Nat)} (hw : ∀ x ∈ ps, PcW x) (h : (ps.flatMap fun x => x.2).length = os.length) (hc : os.length ≤ 20) (ho : ∀ o ∈ os, blankL o ∧ o.length ≤ 1000) :
    TL.joinL [10] (replL (rowsL (TL.joinL [10] (ps.map fun x => x.1))) (lnS (TL.joinL [10] (ps.map fun x => x.1))) os) = TL.joinL [10] ((subP ps os).map fun x => x.1) := by
  have h1 := page_lns (ps := ps) (fun x m => (hw x m).1) (by omega)
  rw [h1.2]
  by_cases hn : ps = []
  · subst hn
    have : os = [] := List.length_eq_zero_iff.mp (by simpa using h.symm)
    subst this
    rfl
  · rw [rows_join (by simpa using hn), List.flatMap_map]
    have h2 := repl_sub ps [] os hw h ho
    rw [List.nil_append, List.nil_append, List.length_nil] at h2
    rw [h2]
    have hn2 : (subP ps os).map (fun x => x.1) ≠ [] := by
      intro z
      have := congrArg List.length z
      rw [List.length_map, (subP_ok ps os hw h ho).2.2.1] at this
      exact hn (List.length_eq_zero_iff.mp (by simpa using this))
    have h3 := rows_join hn2
    rw [List.flatMap_map] at h3
    rw [← h3, joinL_rows]
def ChT (f : Nat → List Int) : List Nat → Prop
  | s :: t :: r => (s < t ∧ f s ≠ f t ∧ ∀ w, s ≤ w → w < t → f w = f s) ∧ ChT f (t :: r)
  | _ => True
theorem subP_mem : ∀ (ps : List Pcs) (os : List (List Nat)), (∀ x ∈ ps, PcW x) → ∀ x ∈ subP ps os, x ∈ ps ∨ ∃ o w, x = (o ++ w, [(o, w)]) ∧ o ∈ os ∧ NameOk w
  | [], os, _, x, m => by simp [subP] at m
  | (p, e) :: ps, os, hw, x, m => by
    have hw2 : ∀ x ∈ ps, PcW x := fun x m => hw x (List.mem_cons_of_mem _ m)
    rcases (hw (p, e) List.mem_cons_self).2 with he | ⟨l, w, he, hp, hl, hl2, hn⟩
    · dsimp only at he
      subst he
      rw [subP] at m
      rcases List.mem_cons.mp m with rfl | m
      · exact .inl List.mem_cons_self
      · rcases subP_mem ps os hw2 x m with h | ⟨o, w, h1, h2, h3⟩
        · exact .inl (List.mem_cons_of_mem _ h)
        · exact .inr ⟨o, w, h1, h2, h3⟩
    · dsimp only at he hp
      subst he
      cases os with
      | nil => exact .inl (by simpa [subP] using m)
      | cons o os =>
        rw [subP] at m
        rcases List.mem_cons.mp m with rfl | m
        · exact .inr ⟨o, w, rfl, List.mem_cons_self, hn⟩
        · rcases subP_mem ps os hw2 x m with h | ⟨o, w, h1, h2, h3⟩
          · exact .inl (List.mem_cons_of_mem _ h)
          · exact .inr ⟨o, w, h1, List.mem_cons_of_mem _ h2, h3⟩
theorem ow_ok {o w : List Nat} (ho : blankL o ∧ o.length ≤ 1000) (hn : NameOk w) : PcW (o ++ w, [(o, w)]) ∧ (o ++ w).length ≤ 1100 ∧ ∀ c ∈ o ++ w, c < 0x110000 := by
  refine ⟨⟨pc_name ho.1 ho.2 hn.1, .inr ⟨o, w, rfl, rfl, ho.1, ho.2, hn⟩⟩, by rw [List.length_append]; have := hn.2.1; omega, fun c m => ?_⟩
  rcases List.mem_append.mp m with m | m
  · rcases ho.1 c m with rfl | rfl <;> decide
  · exact of_decide_eq_true (List.all_eq_true.mp hn.2.2 c m)
theorem page_sub {ps : List Pcs} {bs : List (List Nat)} (hw : ∀ x ∈ ps, PcW x) (h : (ps.flatMap fun x => x.2).length = bs.length) (hc : bs.length ≤ 20) (ho : ∀ o ∈ bs, blankL o ∧ o.length ≤ 1000) (hl : ps.length ≤ 100) (hb : ∀ x ∈ ps, x.1.length ≤ 1100 ∧ ∀ c ∈ x.1, c < 0x110000) :
    (SX.S (TL.joinL [10] ((subP ps bs).map fun x => x.1))).length ≤ 200000 ∧ PyData.strOk (SX.S (TL.joinL [10] ((subP ps bs).map fun x => x.1))) = true ∧ okTx (TL.joinL [10] ((subP ps bs).map fun x => x.1)) ∧ inS (TL.joinL [10] ((subP ps bs).map fun x => x.1)) = bs.map SX.S := by
  obtain ⟨g1, g2, g3, _⟩ := subP_ok ps bs hw h ho
  refine page_all (fun x m => (g1 x m).1) ?_ (by omega) (fun x m => ?_) (by rw [List.length_map]; exact hc)
  · conv => rhs; rw [← g2]
    rw [List.map_map]; rfl
  · rcases subP_mem ps bs hw x m with h | ⟨o, w, rfl, mo, hn⟩
    · exact hb x h
    · exact (ow_ok (ho o mo) hn).2
def catD (d : PyData) : PyData := match d with
  | .tuple [.str a, .str b] => .str (a ++ b)
  | d => d
def bkD (d : PyData) : PyData := match d with
  | .str z => .str (SX.S (indL (runsL (tl z)).reverse (tailL (tl z))))
  | d => d
end Pz
set_option maxRecDepth 100000
namespace Pz
open PySem PySem.Spec PyProof.Rows L2 TL
variable [PenC]
def hrdT (c : Str) (fs : List (Str × PyData)) : Option PyData :=
  if c = Str.ofString "InvalidText" then some (.tuple [.str "text", .none])
  else if c = Str.ofString "UnbalancedBracket" then (fs.lookup (Str.ofString "number")).map fun d => .tuple [.str "bracket", d]
  else if c = Str.ofString "TooLong" then (fs.lookup (Str.ofString "length")).map fun d => .tuple [.str "long", d]
  else if c = Str.ofString "TooMany" then (fs.lookup (Str.ofString "count")).map fun d => .tuple [.str "many", d]
  else none
inductive Ans where
  | ok (d : PyData)
  | err (c : Str) (fs : List (Str × PyData))
abbrev insL (ls : List Ln) : List Str := ls.map fun x => SX.S x.2.1
def inA (d : PyData) : Ans := match lgD d with
  | .ok ls => .ok (.list ((insL ls).map .str))
  | .err c fs => .err c fs
def shortA (zs : List Str) (x : PyData) : Ans := if 60 < lonG (zs.map .str) then .err "TooLong" [("length", .int (lonG (zs.map .str)))] else .ok x
def vwA (d : PyData) : Ans := match lgD d with
  | .ok ls => shortA (insL ls) (.list (vwD (insL ls)))
  | .err c fs => .err c fs
def poA (d : PyData) : Ans := match lgD d with
  | .ok ls => shortA (insL ls) (.bool (poD (insL ls)))
  | .err c fs => .err c fs
def spA (d : PyData) : Ans := match lgD d with
  | .ok ls => shortA (insL ls) (splD (insL ls))
  | .err c fs => .err c fs
def duT (d : PyData) : PyData := match vwA d with
  | .ok _ => .none
  | .err c fs => (hrdT c fs).getD .none
def shA (d : PyData) : Ans := match vwA d with
  | .ok x => .ok (.bool ((PyData.str (PyData.list []).shown).eqv (.str x.shown)))
  | .err c fs => .err c fs
end Pz
set_option maxRecDepth 100000
namespace Pz
open PySem PySem.Spec PyProof.Rows L2 TL
variable [PenC]
structure Pg (T : List Nat) (zs : List Str) : Prop where
  row : ∀ r ∈ rowsL T, (ldL r).length ≤ 1000
  go : ∃ L : List Ln, insL L = zs ∧ ∀ rest, goL [] 0 0 (rowsL T ++ rest) = goL L 0 (rowsL T).length rest
  chr : ∀ c ∈ T, c < 0x110000
theorem Pg.snoc {T p : List Nat} {zs : List Str} {e : List (List Nat × List Nat)} (h : Pg T zs) (hp : Pc p e) (hc : ∀ c ∈ p, c < 0x110000) : Pg (T ++ 10 :: p) (zs ++ e.map fun x => SX.S x.1) := by
  obtain ⟨L, hL, hg⟩ := h.go
  refine ⟨fun r m => ?_, ⟨L ++ e.map (fun x => ((rowsL T).length, x.1, x.2)), ?_, fun rest => ?_⟩, fun c m => ?_⟩
  · rw [rowsL_app] at m
    rcases List.mem_append.mp m with m | m
    · exact h.row r m
    · exact hp.1 r m
  · rw [← hL, insL, List.map_append, List.map_map]; rfl
  · rw [rowsL_app, List.append_assoc, hg, hp.2, List.length_append]
  · rcases List.mem_append.mp m with m | m
    · exact h.chr c m
    · rcases List.mem_cons.mp m with rfl | m
      · decide
      · exact hc c m
theorem Pg.log {T : List Nat} {zs : List Str} (h : Pg T zs) : (20 < zs.length → logL T = .err "TooMany" [("count", .int (zs.length : Nat))]) ∧ (zs.length ≤ 20 → ∃ L, logL T = .ok L ∧ insL L = zs) := by
  obtain ⟨L, hL, hg⟩ := h.go
  have hl : L.length = zs.length := by rw [← hL, List.length_map]
  have e := hg []
  rw [List.append_nil, goL] at e
  have ha : ((rowsL T).all fun r => decide ((ldL r).length ≤ 1000)) = true := List.all_eq_true.mpr fun r m => decide_eq_true (h.row r m)
  unfold logL
  rw [if_pos ha, e]
  dsimp only
  rw [if_neg (by decide), hl]
  exact ⟨fun hz => by rw [if_pos hz], fun hz => ⟨L, by rw [if_neg (by omega)], hL⟩⟩
theorem Pg.all {T x : List Nat} {zs : List Str} (h : Pg T zs) (hx : ((rowsL x).all fun r => decide ((ldL r).length ≤ 1000)) = true) : ((rowsL (T ++ 10 :: x)).all fun r => decide ((ldL r).length ≤ 1000)) = true := by
  rw [rowsL_app, List.all_append, hx, Bool.and_true]
  exact List.all_eq_true.mpr fun r m => decide_eq_true (h.row r m)
def x43a : List Nat := List.replicate 999 32 ++ [9, 35, 32, 97]
def x43b : List Nat := [120, 40, 10] ++ List.replicate 1000 32 ++ [41]
theorem Pg.ok {T : List Nat} {zs : List Str} (h : Pg T zs) : PyData.strOk (SX.S T) = true := strOk_iff.mpr h.chr
theorem Pg.okT {T X : List Nat} {zs : List Str} (h : Pg T zs) (hl : T.length + X.length ≤ 1000000) (hx : ∀ c ∈ X, c < 0x110000) : ∀ z : Str, PyData.str (SX.S (T ++ X)) = .str z → z.length ≤ 1000000 ∧ PyData.strOk z = true := fun z e => by
  cases e
  refine ⟨by rw [SX.S_len, List.length_append]; exact hl, strOk_iff.mpr fun c m => ?_⟩
  rcases List.mem_append.mp (show c ∈ T ++ X from m) with m | m
  · exact h.chr c m
  · exact hx c m
def t43 (n : Nat) : List Nat := [97] ++ 10 :: (List.replicate n 32 ++ [98])
end Pz
set_option maxRecDepth 100000
namespace Pz
open PySem PySem.Spec PyProof.Rows L2 TL
variable [PenC]
def wtL (l : List Nat) : Nat := (l.map fun c => if c = 9 then 8 else 1).sum
theorem wtL_cons {c : Nat} {l : List Nat} : wtL (c :: l) = (if c = 9 then 8 else 1) + wtL l := by
  unfold wtL; rw [List.map_cons, List.sum_cons]
theorem wtL_ge : ∀ {l : List Nat}, l.length ≤ wtL l
  | [] => Nat.le_refl _
  | c :: l => by
    have := wtL_ge (l := l)
    rw [wtL_cons, List.length_cons]
    split <;> omega
def BrZ (k : Nat) (z : Str) : Prop := blankL (tl z) ∧ wtL (tl z) ≤ 32 * k
theorem BrZ.mono {k m : Nat} {z : Str} (h : BrZ k z) (hk : k ≤ m) : BrZ m z := ⟨h.1, by have := h.2; omega⟩
theorem BrZ.len {k : Nat} {z : Str} (h : BrZ k z) : z.length ≤ 32 * k := by
  have := wtL_ge (l := tl z)
  rw [Pz.len_tl]; have := h.2; omega
end Pz
set_option maxRecDepth 100000
namespace Pz
variable [PenC]
open PySem PySem.Spec PyProof.Rows L2 TL
def zeroAt (ds : List PyData) (i : Nat) : Bool := match ds[i]? with
  | some (.int x) => decide (x = 0)
  | _ => false
def rootV (ds : List PyData) (i : Nat) : PyData := if ds.length < i then .none else .bool (zeroAt ds i)
def rootK (ds : List PyData) (i : Nat) : PyData := if ds.length < i then .int 0 else .int (if zeroAt ds i then 1 else 2)
def itemsT (d : PyData) : List PyData := match d with
  | .tuple ds => ds
  | _ => []
def isB (b : Bool) (i : Nat) (d : PyData) : Bool := !decide ((itemsT d).length < i) && (zeroAt (itemsT d) i == b)
def confAt (fs : List PyData) (i : Nat) : Option PyData := match fs.findIdx? (isB true i), fs.findIdx? (isB false i) with
  | some a, some b => some (.tuple [.int (i : Nat), .int (a : Nat), .int (b : Nat)])
  | _, _ => none
def conf (fs : List PyData) : Nat → Nat → PyData
  | 0, _ => .none
  | n + 1, k => match confAt fs k with
    | some d => d
    | none => conf fs n (k + 1)
def Fam (n : Nat) (fs : List PyData) : Prop := ∃ roots : Nat → Bool, ∀ d ∈ fs, ∃ ds, d = .tuple ds ∧ Ints (fun x => 0 ≤ x ∧ x ≤ 50) ds ∧ ds.length ≤ n ∧ ∀ i, i ≤ ds.length → i < n → zeroAt ds i = roots i
theorem Fam.conf {n : Nat} {fs : List PyData} (h : Fam n fs) : ∀ m k, k + m ≤ n → Pz.conf fs m k = .none
  | 0, _, _ => rfl
  | m + 1, k, hk => by
    obtain ⟨roots, hr⟩ := id h
    have e : confAt fs k = none := by
      unfold confAt
      cases h1 : fs.findIdx? (isB true k) with
      | none => rfl
      | some a =>
        cases h2 : fs.findIdx? (isB false k) with
        | none => rfl
        | some b =>
          exfalso
          obtain ⟨ha, pa, _⟩ := List.findIdx?_eq_some_iff_getElem.mp h1
          obtain ⟨hb, pb, _⟩ := List.findIdx?_eq_some_iff_getElem.mp h2
          obtain ⟨ds, e1, _, _, z1⟩ := hr fs[a] (List.getElem_mem ha)
          obtain ⟨es, e2, _, _, z2⟩ := hr fs[b] (List.getElem_mem hb)
          unfold isB at pa pb
          rw [e1] at pa
          rw [e2] at pb
          simp only [itemsT, Bool.and_eq_true, Bool.not_eq_true', decide_eq_false_iff_not, beq_iff_eq] at pa pb
          have w1 := z1 k (Nat.le_of_not_lt (of_decide_eq_false pa.1)) (by omega)
          have w2 := z2 k (Nat.le_of_not_lt (of_decide_eq_false pb.1)) (by omega)
          rw [pa.2] at w1
          rw [pb.2] at w2
          rw [← w1] at w2
          cases w2
    rw [Pz.conf, e]
    exact Fam.conf h m (k + 1) (by omega)
def FamB (a : Nat) (bs : List Bool) (fs : List PyData) : Prop := ∀ d ∈ fs, ∃ ds, d = .tuple ds ∧ Ints (fun x => 0 ≤ x ∧ x ≤ 50) ds ∧ ds.length ≤ a ∧ ∀ i, i ≤ ds.length → i < a → zeroAt ds i = bs.getD i false
end Pz
set_option maxRecDepth 100000
namespace Pz
open PySem PySem.Spec PyProof.Rows L2 TL
variable [PenC]
def seqOk : Int → List PyData → Bool
  | _, [] => true
  | b, .int x :: r => decide (0 ≤ x) && decide (x ≤ b + 1) && seqOk x r
  | _, _ => false
def lastD : List PyData → Int
  | [] => 0
  | [.int x] => x
  | _ :: r => lastD r
theorem lastD_snoc (x : Int) : ∀ (l : List PyData), lastD (l ++ [.int x]) = x
  | [] => rfl
  | [d] => by cases d <;> rfl
  | d :: e :: r => by rw [List.cons_append, List.cons_append, lastD]; · exact lastD_snoc x (e :: r)
                      · intro y _ h; cases h
theorem seqOk_snoc (x : Int) : ∀ (l : List PyData) (b : Int), seqOk b l = true → 0 ≤ x → (∀ b', (l = [] → b' = b) → (∀ i y, l = i ++ [.int y] → b' = y) → x ≤ b' + 1) → seqOk b (l ++ [.int x]) = true
  | [], b, _, h0, h => by
    have := h b (fun _ => rfl) (fun i y e => by simp at e)
    simp [seqOk, h0, this]
  | d :: r, b, hs, h0, h => by
    cases d with
    | int z =>
      rw [seqOk, Bool.and_eq_true, Bool.and_eq_true] at hs
      rw [List.cons_append, seqOk, hs.1.1, hs.1.2, Bool.true_and, Bool.true_and]
      refine seqOk_snoc x r z hs.2 h0 fun b' e1 e2 => h b' (fun e => by simp at e) fun i y e => ?_
      cases i with
      | nil => simp at e; rw [e1 e.2, e.1]
      | cons a i => simp at e; exact e2 i y e.2
    | _ => simp [seqOk] at hs
def possD : PyData → Int → Bool
  | .tuple vs, c => decide ((vs.length : Int) ≤ c) && seqOk (-1) vs && (decide (vs.length = 0) || decide ((vs.length : Int) = c) || decide (0 < lastD vs))
  | _, _ => false
end Pz
set_option maxRecDepth 100000
namespace Pz
open PySem PySem.Spec PyProof.Rows L2 TL
variable [PenC]
theorem asc_len1 {s : List Int} (h : Asc s) : s.length = 1 ↔ lastI s = 0 := by
  obtain ⟨h1, r, rfl⟩ := h
  constructor
  · intro e
    cases r with
    | nil => rfl
    | cons a r => simp at e
  · intro e
    cases r with
    | nil => rfl
    | cons a r =>
      exfalso
      have ha : 0 < a := (List.pairwise_cons.mp h1).1 a List.mem_cons_self
      have := Asc.le_last ⟨h1, _, rfl⟩ a (by simp)
      omega
theorem lvG_poss {n : Nat} : ∀ (cs s f : List Int), Asc s → (∀ c ∈ cs, 0 ≤ c) → (f = [] → s = [0]) → (∀ i y, f = i ++ [y] → y = (s.length : Int) - 1) → seqOk (-1) (f.map .int) = true → f.length + cs.length = n →
    ∃ g, lvG s f cs = f ++ g ∧ g.length ≤ cs.length ∧ (∀ i, i < g.length → ∃ x c, g[i]? = some x ∧ cs[i]? = some c ∧ (x = 0 ↔ c = 0)) ∧ (g.length < cs.length → ∃ c, cs[g.length]? = some c ∧ c ≠ 0) ∧ seqOk (-1) ((f ++ g).map .int) = true ∧ (f ++ g = [] ∨ (f ++ g).length = n ∨ 0 < lastD ((f ++ g).map .int))
  | [], s, f, hs, hc, hf, hl, hq, hn => ⟨[], by rw [lvG, List.append_nil], Nat.le_refl _, (fun i hi => by simp at hi), (fun hi => by simp at hi), by rw [List.append_nil]; exact hq, .inr (.inl (by rw [List.append_nil]; simpa using hn))⟩
  | c :: r, s, f, hs, hc, hf, hl, hq, hn => by
    have hc0 := hc c List.mem_cons_self
    have h2 := hs.nx (f := f) hc0
    have h3 := nxS_len (s := s) (f := f) (c := c)
    have h4 := h2.len
    have h5 := hs.len
    rw [lvG]
    by_cases e : lastI (nxS s f c) = c
    · rw [if_pos e]
      have hz : ((nxS s f c).length : Int) - 1 = 0 ↔ c = 0 := by
        have := asc_len1 h2
        rw [e] at this
        rw [← this]; omega
      have hq2 : seqOk (-1) ((f ++ [((nxS s f c).length : Int) - 1]).map .int) = true := by
        rw [List.map_append]
        refine seqOk_snoc _ _ _ hq (by omega) fun b' e1 e2 => ?_
        by_cases hf0 : f = []
        · rw [e1 (by rw [hf0]; rfl)]
          have : nxS s f c = [0] ∨ (nxS s f c).length ≤ 1 := by
            right
            unfold nxS
            rw [if_neg (fun h => h.2 hf0), hf hf0]
            exact List.length_filter_le _ _
          rcases this with h | h
          · rw [h]; decide
          · omega
        · obtain ⟨a, y, ef⟩ : ∃ a y, f = a ++ [y] := ⟨_, _, (List.dropLast_concat_getLast hf0).symm⟩
          have hy := hl a y ef
          rw [e2 (a.map .int) y (by rw [ef, List.map_append]; rfl), hy]
          omega
      obtain ⟨g, g1, g2, g3, g4, g5, g6⟩ := lvG_poss (n := n) r (nxS s f c) (f ++ [((nxS s f c).length : Int) - 1]) h2 (fun x m => hc x (List.mem_cons_of_mem _ m)) (fun h => by simp at h) (fun i y h => by
        have := List.append_inj_right' h rfl
        simp at this; exact this.symm) hq2 (by simp only [List.length_append, List.length_cons, List.length_nil] at hn ⊢; omega)
      refine ⟨(((nxS s f c).length : Int) - 1) :: g, by rw [g1, List.append_assoc]; rfl, by simp only [List.length_cons]; omega, fun i hi => ?_, fun hi => ?_, by rw [List.append_assoc] at g5; exact g5, by rw [List.append_assoc] at g6; exact g6⟩
      · cases i with
        | zero => exact ⟨_, _, rfl, rfl, hz⟩
        | succ i => exact g3 i (by simpa using hi)
      · exact g4 (by simpa using hi)
    · rw [if_neg e]
      have hcn : c ≠ 0 := fun h0 => by
        subst h0
        refine e ?_
        unfold nxS
        by_cases hq1 : lastI s < 0 ∧ f ≠ []
        · obtain ⟨_, r0, rfl⟩ := id hs
          have := hs.le_last 0 List.mem_cons_self
          omega
        · rw [if_neg hq1]
          have hfil := hs.fil (c := 0) (by decide)
          have h9 := hfil.le_last
          obtain ⟨hp, r1, e1⟩ := hfil
          have hm : lastI (s.filter fun x => decide (x ≤ 0)) ∈ (s.filter fun x => decide (x ≤ 0)) := by
            rw [e1]
            obtain ⟨a, y, e2⟩ : ∃ a y, (0 : Int) :: r1 = a ++ [y] := ⟨_, _, (List.dropLast_concat_getLast (by simp)).symm⟩
            rw [e2, lastI_snoc]; simp
          have h10 := of_decide_eq_true (List.mem_filter.mp hm).2
          have h11 := h9 0 (by rw [e1]; exact List.mem_cons_self)
          omega
      refine ⟨[], by rw [List.append_nil], Nat.zero_le _, (fun i hi => by simp at hi), (fun _ => ⟨c, rfl, hcn⟩), by rw [List.append_nil]; exact hq, ?_⟩
      rw [List.append_nil]
      by_cases hf0 : f = []
      · exact .inl hf0
      · refine .inr (.inr ?_)
        obtain ⟨a, y, ef⟩ : ∃ a y, f = a ++ [y] := ⟨_, _, (List.dropLast_concat_getLast hf0).symm⟩
        have hy := hl a y ef
        rw [ef, List.map_append, List.map_cons, List.map_nil, lastD_snoc, hy]
        have : ¬ s.length = 1 := fun h1 => by
          have h0 := (asc_len1 hs).mp h1
          have : lastI s < c := by omega
          refine e ?_
          unfold nxS
          rw [if_pos ⟨this, hf0⟩, lastI_snoc]
        omega
theorem lvF_poss {cs : List Int} (hc : ∀ c ∈ cs, 0 ≤ c) : possD (tpI (lvF cs)) (cs.length : Nat) = true ∧ ∀ i, i ≤ (lvF cs).length → i < cs.length → ∃ c, cs[i]? = some c ∧ zeroAt ((lvF cs).map .int) i = decide (c = 0) := by
  obtain ⟨g, g1, g2, g3, g4, g5, g6⟩ := lvG_poss (n := cs.length) cs [0] [] asc0 hc (fun _ => rfl) (fun i y h => by simp at h) rfl (by simp)
  rw [List.nil_append] at g1 g5 g6
  have e : lvF cs = g := g1
  rw [e]
  refine ⟨?_, fun i h1 h2 => ?_⟩
  · unfold possD tpI
    dsimp only
    rw [g5, List.length_map, decide_eq_true (by omega), Bool.and_true, Bool.true_and]
    rcases g6 with h | h | h
    · rw [h]; rfl
    · rw [decide_eq_true (show (g.length : Int) = cs.length by omega)]; simp
    · rw [decide_eq_true h, Bool.or_true]
  · unfold zeroAt
    rw [List.getElem?_map]
    rcases Nat.lt_or_ge i g.length with h | h
    · obtain ⟨x, c, e1, e2, e3⟩ := g3 i h
      refine ⟨c, e2, ?_⟩
      rw [e1]
      exact decide_eq_decide.mpr e3
    · obtain rfl : i = g.length := by omega
      obtain ⟨c, e2, e3⟩ := g4 h2
      refine ⟨c, e2, ?_⟩
      rw [List.getElem?_eq_none (Nat.le_refl _), decide_eq_false e3]
      rfl
theorem rowsA_ne0 : ∀ (l acc : List Nat), rowsA acc l ≠ []
  | [], acc => by rw [rowsA]; nofun
  | c :: l, acc => by
    rw [rowsA]
    split
    · nofun
    · exact rowsA_ne0 l _
def rwD (ps : List Pcs) : List PyData := (ps.flatMap fun x => rowsL x.1).map fun p => .str (SX.S p)
def nuD (ps : List Pcs) : List PyData := (pgE 0 ps).map fun x => .int (x.1 : Nat)
def PcB (x : Pcs) : Prop := Pc x.1 x.2 ∧ x.1.length ≤ 1100 ∧ ∀ c ∈ x.1, c < 0x110000
def wdF : List Nat := [102, 40, 10, 9, 32, 32, 120, 10, 41]
theorem colL_pos {b : Int} (h0 : 0 < b) : ∀ (l : List Nat) (f : Int), 0 ≤ f → l ≠ [] → 0 < colL b l f
  | [], f, h, hn => absurd rfl hn
  | c :: cs, f, h, hn => by
    have e := tab_step h0 f
    have h1 := Int.emod_nonneg f (by omega : b ≠ 0)
    have h2 := Int.emod_lt_of_pos f h0
    have q : 0 < (if c = 32 then f + 1 else (f / b + 1) * b) := by
      split
      · omega
      · rw [e]
        have h3 := Int.mul_ediv_add_emod f b
        have h4 : 0 ≤ b * (f / b) := Int.mul_nonneg (by omega) (Int.ediv_nonneg h (by omega))
        omega
    rw [colL]
    by_cases hc : cs = []
    · rw [hc, colL]; exact q
    · exact colL_pos h0 cs _ (by omega) hc
theorem colZ_zero {z : Str} (h : blankL (tl z)) {w : Int} (h0 : 0 < w) : colZ w z = 0 ↔ tl z = [] := by
  rw [colZ_L h]
  constructor
  · intro e
    exact Classical.byContradiction fun hn => by have := colL_pos h0 (tl z) 0 (Int.le_refl _) hn; omega
  · intro e; rw [e]; rfl
def LvZ (zs : List Str) (d : PyData) : Prop := ∃ w : Int, 0 < w ∧ w ≤ 10 ^ 9 ∧ d = tpI (lvF (zs.map (colZ w)))
def isNil (z : Str) : Bool := decide (tl z = [])
theorem LvZ.all {zs : List Str} (hz : ∀ z ∈ zs, blankL (tl z)) {d : PyData} (h : LvZ zs d) : ∃ l : List Int, d = tpI l ∧ l.length ≤ zs.length ∧ possD d (zs.length : Nat) = true ∧ Ints (fun x => 0 ≤ x ∧ x ≤ zs.length) (l.map .int) ∧
    ∀ i, i ≤ l.length → i < zs.length → zeroAt (l.map .int) i = ((zs.map isNil)[i]?.getD false) := by
  obtain ⟨w, w0, w1, rfl⟩ := h
  have hc : ∀ c ∈ zs.map (colZ w), 0 ≤ c := fun c m => by
    obtain ⟨z, mz, rfl⟩ := List.mem_map.mp m
    exact (colZ_nn (hz z mz) w0 w1).1
  obtain ⟨p1, p2⟩ := lvF_poss hc
  obtain ⟨b1, b2⟩ := lvF_bd hc
  rw [List.length_map] at p1 p2 b1 b2
  refine ⟨_, rfl, b2, p1, fun d m => ?_, fun i h1 h2 => ?_⟩
  · obtain ⟨x, mx, rfl⟩ := List.mem_map.mp m
    exact ⟨x, rfl, b1 x mx⟩
  · obtain ⟨c, e1, e2⟩ := p2 i h1 h2
    rw [e2]
    rw [List.getElem?_map] at e1 ⊢
    rw [List.getElem?_eq_getElem h2] at e1 ⊢
    simp only [Option.map_some, Option.some.injEq, Option.getD_some] at e1 ⊢
    rw [← e1]
    unfold isNil
    exact decide_eq_decide.mpr (colZ_zero (hz _ (List.getElem_mem h2)) w0)
end Pz
set_option maxRecDepth 100000
namespace Pz
open PySem PySem.Spec PyProof.Rows L2 TL
variable [PenC]
def rdA (d : PyData) (w : Int) : Ans := match lgD d with
  | .ok ls => .ok (tpI (lvF ((insL ls).map (colZ w))))
  | .err c fs => .err c fs
def hrdB (c : Str) (fs : List (Str × PyData)) : Option PyData := if c = Str.ofString "TooLong" then none else hrdT c fs
def mnP (n : Nat) : List Pcs := List.replicate n ([9, 98], [([9], [98])]) ++ [([], [])]
def mnT (n : Nat) : List Nat := TL.joinL [10] ((mnP n).map fun x => x.1)
def wdP (bs : List Str) : List Pcs := bs.map fun z => (tl z ++ [120], [(tl z, [120])])
def wdT (bs : List Str) : List Nat := TL.joinL [10] ((wdP bs).map fun x => x.1)
end Pz
set_option maxRecDepth 100000
namespace Pz
open PySem PySem.Spec PyProof.Rows L2 TL
variable [PenC]
def faA (d : PyData) (k : Int) : Ans := match lgD d with
  | .ok ls => .ok (.list ((List.range (k + 1).toNat).map fun i => tpI (lvE (insL ls) (i + 1))))
  | .err c fs => .err c fs
def fmD (zs : List Str) (k : Int) : List PyData := (List.range (k + 1).toNat).map fun i => tpI (lvE zs (i + 1))
end Pz
set_option maxRecDepth 100000
namespace Pz
open PySem PySem.Spec PyProof.Rows L2 TL
variable [PenC]
abbrev lvZ (zs : List Str) (w : Int) : List Int := lvF (zs.map (colZ w))
def acB (zs : List Str) (ws : List Int) : Bool := ws.all fun w => decide (lvZ zs w = lvZ zs (ws.headD 0)) && decide ((lvZ zs w).length = zs.length)
def acA (d : PyData) (ws : List Int) : Ans := match lgD d with
  | .ok ls => .ok (.bool (acB (insL ls) ws))
  | .err c fs => .err c fs
def acD (zs : List Str) (ws : List Int) (d : PyData) : PyData := match d with
  | .tuple ds => .bool (PyData.eqv (.tuple ds) (tpI (lvZ zs (ws.headD 0))) && decide (ds.length = zs.length))
  | d => d
def WdD (d : PyData) : Prop := ∃ ws : List Int, d = .list (ws.map .int) ∧ ws ≠ [] ∧ (ws.length ≤ 6 ∨ ws.length = 12) ∧ ∀ w ∈ ws, 1 ≤ w ∧ w ≤ 10 ^ 9
end Pz
set_option maxRecDepth 100000
namespace Pz
open PySem PySem.Spec PyProof.Rows L2 TL
variable [PenC]
def blkB (d : PyData) (l : Int) (tf : Bool) : Bool := isInd d && (!tf || tabF (sof d)) && decide (gMax (sof d) ≤ l)
def pairB (ws : List PyData) (l : Int) (v : PyData) (tf : Bool) : Bool := match v with
  | .tuple [x, y, w] => blkB x l tf && (blkB y l tf && (intBetw w 1 1000000000 && (sameB (sof x) (sof y) ws && !decide (sgnF (sof x) (sof y) (toI w).toNat = sgnF (sof x) (sof y) (toI (ws.headD .none)).toNat))))
  | _ => false
end Pz
namespace Pz
open PySem PySem.Spec PyProof.Rows L2 TL
variable [PenC]
def sgD (a b : Str) (d : PyData) : PyData := .int (sgnF a b (toI d).toNat)
end Pz
namespace Pz
open PySem PySem.Spec PyProof.Rows L2 TL
variable [PenC]
end Pz
namespace Pz
open PySem PySem.Spec PyProof.Rows L2 TL
variable [PenC]
end Pz
namespace Pz
open PySem PySem.Spec PyProof.Rows L2 TL
variable [PenC]
theorem okT {x y : Str} (h1 : PyData.strOk x = true) (h2 : PyData.strOk y = true) : PyData.strOk (x ++ y) = true := by
  rw [strOk_iff] at *
  intro c m
  rw [tl_add] at m
  exact (List.mem_append.mp m).elim (h1 c) (h2 c)
end Pz
set_option maxRecDepth 100000
namespace Pz
open PySem PySem.Spec PyProof.Rows L2 TL
variable [PenC]
end Pz
set_option maxRecDepth 100000
namespace Pz
open PySem PySem.Spec PyProof.Rows L2 TL
variable [PenC]
def okV (m : Nat) : Bool := decide (m = 0) || (!(apX (cA (unitL m)) m).isEmpty && !(apY (cA (unitL m)) m).isEmpty)
def fooP (F G : List Nat) : List Pcs := [([97], [([], [97])]), (F ++ [98], [(F, [98])]), (G ++ [99], [(G, [99])])]
def fooL (F G : List Nat) : List Nat := TL.joinL [10] ((fooP F G).map fun x => x.1)
def fooZ (F G : List Nat) : List Str := [SX.S [], SX.S F, SX.S G]
def f3 (s : Int) : List Int := if s < 0 then [0, 1, 2] else if s = 0 then [0, 1, 1] else [0, 1]
def lbD (d : PyData) : PyData := match d with
  | .tuple [_, i, b] => .tuple [i, b]
  | d => d
def fooR (F G : List Nat) : List (Str × Str) := [(SX.S [], SX.S [97]), (SX.S F, SX.S [98]), (SX.S G, SX.S [99])]
abbrev pairD (p : Str × Str) : PyData := .tuple [.str p.1, .str p.2]
def grpZ (z : Str) : List Int := (runsL (tl z) ++ [tailL (tl z)]).map fun n : Nat => (n : Int)
def lenD (d : PyData) : PyData := match d with
  | .str x => .int (x.length : Nat)
  | d => d
def neF (zs : List Str) (L : List Int) (d : PyData) : Option PyData := if lvZ zs (toI d) = L then none else some d
def fstZ (d : PyData) : Str := match d with
  | .tuple [.str z, _] => z
  | _ => ⟨#[]⟩
structure FooOk (ws : List PyData) (l : Int) (tf : Bool) (F G : List Nat) : Prop where
  bF : blankL F ∧ F.length ≤ 900
  bG : blankL G ∧ G.length ≤ 900
  gF : gMax (SX.S F) ≤ l
  gG : gMax (SX.S G) ≤ l
  fr : tf = true → tabF (SX.S F) = true ∧ tabF (SX.S G) = true
  lv : ∃ L : List Int, L.length = 3 ∧ (∀ w : Int, PyData.int w ∈ ws → lvZ (fooZ F G) w = L) ∧ ∃ x : Int, 1 ≤ x ∧ x ≤ max (gMax (SX.S F)) (gMax (SX.S G)) + 1 ∧ lvZ (fooZ F G) x ≠ L
def fooD (ws : List PyData) (l : Int) (tf : Bool) : PyData := match undD ws l tf with
  | .tuple [.str a, .str b, _] => if 0 < sgnI (colZ (toI (ws.headD .none)) a) (colZ (toI (ws.headD .none)) b) then .str (SX.S (fooL (tl b) (tl a))) else .str (SX.S (fooL (tl a) (tl b)))
  | _ => .none
end Pz
set_option maxRecDepth 100000
namespace Pz
open PySem PySem.Spec PyProof.Rows L2 TL
variable [PenC]
theorem joinL_lenG {sep : List Nat} {B : Nat} : ∀ {l : List (List Nat)}, (∀ x ∈ l, x.length ≤ B) → (TL.joinL sep l).length ≤ (B + sep.length) * l.length
  | [], _ => by simp [TL.joinL]
  | [p], h => by
    have := h p List.mem_cons_self
    simp [TL.joinL]; omega
  | p :: q :: r, h => by
    have h1 := h p List.mem_cons_self
    have := joinL_lenG (sep := sep) (l := q :: r) fun x m => h x (List.mem_cons_of_mem _ m)
    rw [show TL.joinL sep (p :: q :: r) = p ++ (sep ++ TL.joinL sep (q :: r)) by simp [TL.joinL], List.length_append, List.length_append, List.length_cons, Nat.mul_succ]
    omega
def rdQ (ls : List Int) : List Nat := if ls = [] then [45] else TL.joinL [44] (ls.map fun i => numL i.toNat)
def enQ (e : PyData) : List Nat := match e with
  | .int t => numL t.toNat
  | _ => []
def vwQ (d : PyData) : List Nat := match d with
  | .tuple [.int s, e, .tuple ls] => numL s.toNat ++ [45] ++ enQ e ++ [32] ++ rdQ (ls.map toI)
  | _ => []
def vwsQ (ds : List PyData) : List Nat := TL.joinL [59, 32] (ds.map vwQ)
structure LvOk (ls : List Int) : Prop where
  len : ls.length ≤ 30
  bd : ∀ x ∈ ls, 0 ≤ x ∧ x ≤ 1000
def EnOk (e : PyData) : Prop := e = .none ∨ ∃ t : Int, e = .int t ∧ 0 ≤ t ∧ t ≤ 10 ^ 12
def IsVw (d : PyData) : Prop := ∃ (s : Int) (e : PyData) (ls : List Int), d = .tuple [.int s, e, tpI ls] ∧ 0 ≤ s ∧ s ≤ 10 ^ 12 ∧ EnOk e ∧ LvOk ls
theorem joinL_mem {sep : List Nat} {c : Nat} : ∀ {ps : List (List Nat)}, c ∈ TL.joinL sep ps → c ∈ sep ∨ ∃ p ∈ ps, c ∈ p
  | [], m => by simp [TL.joinL] at m
  | [p], m => .inr ⟨p, List.mem_cons_self, by simpa [TL.joinL] using m⟩
  | p :: q :: r, m => by
    rw [show TL.joinL sep (p :: q :: r) = p ++ (sep ++ TL.joinL sep (q :: r)) by simp [TL.joinL]] at m
    rcases List.mem_append.mp m with m | m
    · exact .inr ⟨p, List.mem_cons_self, m⟩
    · rcases List.mem_append.mp m with m | m
      · exact .inl m
      · rcases joinL_mem m with h | ⟨x, mx, h⟩
        · exact .inl h
        · exact .inr ⟨x, List.mem_cons_of_mem _ mx, h⟩
theorem strOk_asc {l : List Nat} (h : ∀ c ∈ l, c < 128) : PyData.strOk (SX.S l) = true := by
  unfold PyData.strOk
  refine Array.all_eq_true_iff_forall_mem.mpr fun c m => ?_
  have := h c (by simpa [SX.S] using m)
  simp; omega
end Pz
set_option maxRecDepth 100000
namespace Pz
open PySem PySem.Spec PyProof.Rows L2 TL
variable [PenC]
def wcE (c : Nat) : Bool := decide (c < 128) && decide (c ≠ 10) && decide (c ≠ 35) && decide (stp c = 0)
structure WdE (l : List Nat) : Prop where
  len : l.length ≤ 5
  hd : ∃ c r, l = c :: r ∧ blC c = false
  all : ∀ c ∈ l, wcE c = true
def RwE (r : List Nat) : Prop := r.length ≤ 16 ∧ ∀ c ∈ r, c < 128 ∧ c ≠ 10
structure EnE (E : List (List Nat)) : Prop where
  rows : ∀ r ∈ E, RwE r
  len : E.length ≤ 5
  name : nameB (TL.joinL [10] E) = true
  ne : E ≠ []
  rl : rowsL (TL.joinL [10] E) = E
structure PcE (x : Pcs) : Prop where
  pc : Pc x.1 x.2
  len : x.1.length ≤ 100
  chr : ∀ c ∈ x.1, c < 128
  e1 : x.2.length ≤ 1
  el : ∀ y ∈ x.2, y.1.length ≤ 100 ∧ y.2.length ≤ 100 ∧ (∀ c ∈ y.1, c < 128) ∧ ∀ c ∈ y.2, c < 128
  w : PcW x
theorem pgE_mem {ps : List Pcs} {n : Nat} {l : Ln} (m : l ∈ pgE n ps) : ∃ x ∈ ps, l.2 ∈ x.2 := by
  have : l.2 ∈ (pgE n ps).map fun x => x.2 := List.mem_map_of_mem m
  rw [pgE_snd] at this
  exact List.mem_flatMap.mp this
theorem pgE_lt : ∀ (ps : List Pcs) (n B : Nat), (∀ x ∈ ps, (rowsL x.1).length ≤ B ∧ 0 < (rowsL x.1).length) → ∀ l ∈ pgE n ps, l.1 < n + B * ps.length
  | [], _, _, _, l, m => by cases m
  | (p, e) :: ps, n, B, h, l, m => by
    have h1 := h (p, e) List.mem_cons_self
    rw [List.length_cons, Nat.mul_succ]
    rw [pgE] at m
    rcases List.mem_append.mp m with m | m
    · obtain ⟨x, _, rfl⟩ := List.mem_map.mp m
      have : B * ps.length ≥ 0 := Nat.zero_le _
      dsimp only at h1 ⊢
      omega
    · have := pgE_lt ps _ B (fun x m => h x (List.mem_cons_of_mem _ m)) l m
      dsimp only at h1
      omega
theorem rowsL_le (p : List Nat) : (rowsL p).length ≤ p.length + 1 ∧ 0 < (rowsL p).length := by
  have := rowsL_len p
  exact ⟨by omega, by cases e : rowsL p with
    | nil => exact absurd e (rowsA_ne0 p [])
    | cons x xs => simp⟩
structure SrcE (ps : List Pcs) : Prop where
  all : ∀ x ∈ ps, PcE x
  len : ps.length ≤ 90
  num : (ps.flatMap fun x => x.2).length ≤ 20
theorem SrcE.rep {ps : List Pcs} (h : SrcE ps) (n : Nat) (hn : n ≤ 1) : RepP 60000 2 (.list ((pgE n ps).map lnD)) := by
  have hl : (pgE n ps).length ≤ 20 := by
    have := congrArg List.length (pgE_snd ps n)
    rw [List.length_map] at this
    have := h.num
    omega
  have h1 : RepL ((2600 + 2) * ((pgE n ps).map lnD).length) 1 ((pgE n ps).map lnD) := RepL.all fun d m => by
    obtain ⟨l, ml, rfl⟩ := List.mem_map.mp m
    obtain ⟨x, mx, ly⟩ := pgE_mem ml
    obtain ⟨g1, g2, g3, g4⟩ := (h.all x mx).el _ ly
    have hlt := pgE_lt ps n 101 (fun x m => by have := (h.all x m).len; have := rowsL_le x.1; omega) l ml
    have := h.len
    have h10 : (10 : Nat) ^ 100 > 100000 := by decide +kernel
    have r1 := rp_s (z := SX.S l.2.1) (strOk_asc g3)
    have r2 := rp_s (z := SX.S l.2.2) (strOk_asc g4)
    rw [SX.S_len] at r1 r2
    exact ((RepL.cons (rp_i (i := ((l.1 : Nat) : Int)) (by rw [Int.natAbs_natCast]; omega)) (RepL.cons r1 (RepL.cons r2 RepL.nil))).tup).mono (by omega) (by decide)
  rw [List.length_map] at h1
  exact h1.lst.mono (by have := Nat.mul_le_mul_left 2602 hl; omega) (by decide)
theorem SrcE.log {ps : List Pcs} (h : SrcE ps) : logL (TL.joinL [10] (ps.map fun x => x.1)) = .ok (pgE 0 ps) := page_ok (fun x m => (h.all x m).pc) h.num
theorem SrcE.str {ps : List Pcs} (h : SrcE ps) : (TL.joinL [10] (ps.map fun x => x.1)).length ≤ 10000 ∧ PyData.strOk (SX.S (TL.joinL [10] (ps.map fun x => x.1))) = true := by
  constructor
  · have := joinL_lenG (sep := [10]) (B := 100) (l := ps.map fun x => x.1) fun x m => by
      obtain ⟨y, my, rfl⟩ := List.mem_map.mp m
      exact (h.all y my).len
    rw [List.length_map] at this
    have h2 : (100 + ([10] : List Nat).length) * ps.length ≤ 101 * 90 := Nat.mul_le_mul_left 101 h.len
    omega
  · refine strOk_asc fun c m => ?_
    rcases joinL_mem m with m | ⟨p, mp, m⟩
    · rw [List.mem_singleton.mp m]; decide
    · obtain ⟨y, my, rfl⟩ := List.mem_map.mp mp
      exact (h.all y my).chr c m
def alE : Str := Str.ofString "!\"$&'*+,-./0123456789:;<=>?@ABCDEFGHIJKLMNOPQRSTUVWXYZ\\^_`abcdefghijklmnopqrstuvwxyz|~"
def AsE (B : Nat) (l : List Nat) : Prop := l.length ≤ B ∧ ∀ c ∈ l, c < 128 ∧ c ≠ 10
instance {B : Nat} {l : List Nat} : Decidable (AsE B l) := inferInstanceAs (Decidable (_ ∧ _))
theorem AsE.app {A B C : Nat} {k l : List Nat} (h : AsE A k) (h2 : AsE B l) (hC : A + B ≤ C) : AsE C (k ++ l) :=
  ⟨by rw [List.length_append]; have := h.1; have := h2.1; omega, fun c m => (List.mem_append.mp m).elim (h.2 c) (h2.2 c)⟩
theorem WdE.as {l : List Nat} (h : WdE l) : AsE 5 l := ⟨h.len, fun c m => by
  have := h.all c m
  unfold wcE at this
  simp only [Bool.and_eq_true, decide_eq_true_eq] at this
  exact ⟨this.1.1.1, this.1.1.2⟩⟩
def RmE (l : List Nat) : Prop := AsE 6 l ∧ ∀ d : Int, 0 ≤ d → dpL (cdL l) d = some d
def MdE (l : List Nat) : Prop := AsE 3 l ∧ ∀ (y : List Nat) (d : Int), 0 ≤ d → dpL (cdL (l ++ y)) d = dpL (cdL y) d
def KpE (l : List Nat) : Prop := RwE l ∧ ∀ d : Int, 0 ≤ d → dpL (cdL l) d = some d
theorem AsE.rw {B : Nat} {l : List Nat} (h : AsE B l) (hB : B ≤ 16) : RwE l := ⟨by have := h.1; omega, h.2⟩
def FiE (r : List Nat) : Prop := AsE 6 r ∧ bgL (rsL r) = false
def upD (d : PyData) : PyData := match d with
  | .tuple [.int n, x, y] => .tuple [.int (n + 1), x, y]
  | d => d
end Pz
set_option maxRecDepth 100000
namespace Pz
open PySem PySem.Spec PyProof.Rows L2 TL
variable [PenC]
def apZ (x : Bool) (w : Int) (z : Str) : List Nat := if x = true then indL [] (colZ w z).toNat else indL (List.replicate (colZ w z / w).toNat 0) (colZ w z % w).toNat
def cvB (x : Bool) (w i j : Int) : Int → List Str → List (List Nat)
  | _, [] => []
  | k, z :: r => (if i ≤ k ∧ k ≤ j then apZ x w z else tl z) :: cvB x w i j (k + 1) r
def isEx (o : Str) : Bool := decide (o = Str.ofString "expand")
def OpW (o : Str) : Prop := o = Str.ofString "expand" ∨ o = Str.ofString "collapse"
def cvF (o : Str) (w i j : Int) (d : PyData) : PyData := match d with
  | .tuple [.int k, .str z] => .str (SX.S (if i ≤ k ∧ k ≤ j then apZ (isEx o) w z else tl z))
  | d => d
def pgT (ps : List Pcs) (os : List (List Nat)) : List Nat := TL.joinL [10] ((subP ps os).map fun x => x.1)
theorem subP_sub : ∀ (ps : List Pcs) (os os' : List (List Nat)), (∀ x ∈ ps, PcW x) → (ps.flatMap fun x => x.2).length = os.length → os'.length = os.length → subP (subP ps os) os' = subP ps os'
  | [], os, os', _, h, h2 => by
    have e1 : os = [] := List.length_eq_zero_iff.mp (by simpa using h.symm)
    subst e1
    simp [subP]
  | (p, e) :: ps, os, os', hw, h, h2 => by
    have hw2 : ∀ x ∈ ps, PcW x := fun x m => hw x (List.mem_cons_of_mem _ m)
    rcases (hw (p, e) List.mem_cons_self).2 with he | ⟨l, w, he, hp, hl, hl2, hn⟩
    · dsimp only at he
      subst he
      rw [subP, subP, subP, subP_sub ps os os' hw2 (by simpa using h) h2]
    · dsimp only at he
      subst he
      cases os with
      | nil => simp at h
      | cons o os =>
        cases os' with
        | nil => simp at h2
        | cons o' os' =>
          rw [subP, subP, subP, subP_sub ps os os' hw2 (by simpa using h) (by simpa using h2)]
theorem conv_T {ps : List Pcs} {os os' : List (List Nat)} (hw : ∀ x ∈ ps, PcW x) (h : (ps.flatMap fun x => x.2).length = os.length) (h2 : os'.length = os.length) (hc : os.length ≤ 20) (ho : ∀ o ∈ os, blankL o ∧ o.length ≤ 1000) (ho' : ∀ o ∈ os', blankL o ∧ o.length ≤ 1000) :
    TL.joinL [10] (replL (rowsL (pgT ps os)) (lnS (pgT ps os)) os') = pgT ps os' := by
  obtain ⟨g1, g2, g3, g4⟩ := subP_ok ps os hw h ho
  have hl : ((subP ps os).flatMap fun x => x.2).length = os.length := by rw [← congrArg List.length g2, List.length_map]
  have := page_repl g1 (os := os') (by rw [hl, h2]) (by omega) ho'
  rw [subP_sub ps os os' hw h h2] at this
  exact this
structure PgOk (ps : List Pcs) (n : Nat) : Prop where
  hw : ∀ x ∈ ps, PcW x
  len : (ps.flatMap fun x => x.2).length = n
  le : n ≤ 20
  pl : ps.length ≤ 100
  hb : ∀ x ∈ ps, x.1.length ≤ 1100 ∧ ∀ c ∈ x.1, c < 0x110000
def LdOk (n : Nat) (os : List (List Nat)) : Prop := os.length = n ∧ ∀ o ∈ os, blankL o ∧ o.length ≤ 1000
theorem PgOk.all {ps : List Pcs} {n : Nat} {os : List (List Nat)} (h : PgOk ps n) (ho : LdOk n os) : (SX.S (pgT ps os)).length ≤ 200000 ∧ PyData.strOk (SX.S (pgT ps os)) = true ∧ okTx (pgT ps os) ∧ inS (pgT ps os) = os.map SX.S :=
  page_sub h.hw (by rw [h.len, ho.1]) (by rw [ho.1]; exact h.le) ho.2 h.pl h.hb
theorem PgOk.conv {ps : List Pcs} {n : Nat} {os os' : List (List Nat)} (h : PgOk ps n) (ho : LdOk n os) (ho' : LdOk n os') : TL.joinL [10] (replL (rowsL (pgT ps os)) (lnS (pgT ps os)) os') = pgT ps os' :=
  conv_T h.hw (by rw [h.len, ho.1]) (by rw [ho.1, ho'.1]) (by rw [ho.1]; exact h.le) ho.2 ho'.2
def nmD (d : PyData) : PyData := match d with
  | .tuple [a, _, c] => .tuple [a, c]
  | d => d
def nmL (x : Ln) : PyData := .tuple [.int (x.1 : Nat), .str (SX.S x.2.2)]
end Pz
set_option maxRecDepth 100000
namespace Pz
open PySem PySem.Spec PyProof.Rows L2 TL
variable [PenC]
def wiA (d e : PyData) : Ans := match lgD d with
  | .err c fs => .err c fs
  | .ok ls => match d, e with
    | .str z, .list os => if os.length = ls.length ∧ (os.all isInd) = true then .ok (.str (SX.S (TL.joinL [10] (replL (rowsL (tl z)) ls (os.map fun d => tl (toZ d)))))) else .err "InvalidText" []
    | _, _ => .err "InvalidText" []
def ItO (x : PyData) : Prop := RepP 11000 1 x ∧ ∀ z, x = .str z → z.length ≤ 1001
structure OdD (n : Nat) (d : PyData) : Prop where
  rp : RepZ d ∨ RepOk d
  bad : ∀ os, d = .list os → ¬ (os.length = n ∧ (os.all isInd) = true)
  ln : ∀ os, d = .list os → os.length ≤ 1000000 ∧ ∀ x ∈ os, ∀ z, x = .str z → z.length ≤ 1000000
def ldE (ps : List Pcs) : List (List Nat) := (ps.flatMap fun x => x.2).map fun x => x.1
def zuF (d : PyData) : PyData := match d with
  | .tuple [.tuple [n, _, y], b] => .tuple [n, b, y]
  | d => d
def snF (d : PyData) : PyData := match d with
  | .tuple [_, b, _] => b
  | d => d
end Pz
set_option maxRecDepth 100000
namespace Pz
open PySem PySem.Spec PyProof.Rows L2 TL
variable [PenC]
def isLn (d : PyData) (n : Int) : Bool := match d with
  | .tuple [.str s, v] => decide (s = Str.ofString "line") && intFrom v (n + 1)
  | _ => false
def isMk (d : PyData) (w : Str) : Bool := match d with
  | .tuple [.str s] => decide (s = w)
  | _ => false
def lnN (d : PyData) : Int := match d with
  | .tuple [_, .int k] => k
  | _ => 0
def lvT (n : Nat) : List Int → Int → Int → Str → Nat → List PyData → Ans
  | found, level, _, before, _, [] => if before = Str.ofString "indent" ∨ 0 < level then .err "InvalidTokens" [("index", .int (n : Nat))] else .ok (tpI found)
  | found, level, number, before, k, d :: ds =>
    if isLn d number = true then lvT n (found ++ [level]) level (lnN d) (Str.ofString "line") (k + 1) ds
    else if isMk d (Str.ofString "indent") = true ∧ before = Str.ofString "line" then lvT n found (level + 1) number (Str.ofString "indent") (k + 1) ds
    else if isMk d (Str.ofString "dedent") = true ∧ (before = Str.ofString "line" ∨ before = Str.ofString "dedent") ∧ 0 < level then lvT n found (level - 1) number (Str.ofString "dedent") (k + 1) ds
    else .err "InvalidTokens" [("index", .int (k : Nat))]
abbrev tkI : PyData := .tuple [.str (Str.ofString "indent")]
abbrev tkE : PyData := .tuple [.str (Str.ofString "dedent")]
abbrev tkN (n : Int) : PyData := .tuple [.str (Str.ofString "line"), .int n]
def tkL (before : Int) : List (Int × Int) → List PyData
  | [] => List.replicate before.toNat tkE
  | (n, l) :: r => List.replicate (l - before).toNat tkI ++ List.replicate (before - l).toNat tkE ++ tkN n :: tkL l r
def tkB (num b : Int) : List (Int × Int) → Prop
  | [] => True
  | (n, l) :: r => num < n ∧ 0 ≤ l ∧ l ≤ b + 1 ∧ tkB n l r
def tkF (before : Int) : List (Int × Int) → List PyData
  | [] => []
  | (n, l) :: r => List.replicate (l - before).toNat tkI ++ List.replicate (before - l).toNat tkE ++ tkN n :: tkF l r
def laB (b : Int) : List (Int × Int) → Int
  | [] => b
  | (_, l) :: r => laB l r
def laN (b : Int) : List (Int × Int) → Int
  | [] => b
  | (n, _) :: r => laN n r
def dpB (b : Int) : List Int → Prop
  | [] => True
  | l :: r => 0 ≤ l ∧ l ≤ b + 1 ∧ dpB l r
def laI (b : Int) : List Int → Int
  | [] => b
  | l :: r => laI l r
theorem laI_snoc {l : Int} : ∀ (L : List Int) (b : Int), laI b (L ++ [l]) = l
  | [], _ => rfl
  | k :: r, _ => by rw [List.cons_append, laI, laI_snoc r k]
theorem dpB_snoc {l : Int} : ∀ (L : List Int) (b : Int), dpB b L → 0 ≤ l → l ≤ laI b L + 1 → dpB b (L ++ [l])
  | [], b, _, h2, h3 => ⟨h2, h3, trivial⟩
  | k :: r, b, ⟨t2, t3, t4⟩, h2, h3 => ⟨t2, t3, dpB_snoc r k t4 h2 h3⟩
theorem laI_ge : ∀ (L : List Int) (b : Int), dpB b L → -1 ≤ b → -1 ≤ laI b L ∧ laI b L ≤ b + L.length
  | [], b, _, h => ⟨h, by simp [laI]⟩
  | k :: r, b, ⟨t2, t3, t4⟩, h => by
    obtain ⟨i1, i2⟩ := laI_ge r k t4 (by omega)
    rw [laI, List.length_cons]
    exact ⟨i1, by omega⟩
def rnD (d : PyData) : PyData := match d with
  | .tuple [x, .int n] => .tuple [x, .int (3 * n + 1)]
  | d => d
end Pz
set_option maxRecDepth 100000
namespace Pz
def facN : Nat → Nat
  | 0 => 1
  | n + 1 => (n + 1) * facN n
def chN : Nat → Nat → Nat
  | _, 0 => 1
  | 0, _ + 1 => 0
  | n + 1, k + 1 => chN n k + chN n (k + 1)
def ordS (f p c : Nat) : Nat := f * chN (p + c) c
def ordF (f p : Nat) : List Nat → Nat
  | [] => f
  | c :: cs => ordF (ordS f p c) (p + c) cs
def ordN (cs : List Nat) : Nat := ordF 1 0 cs
def pfN (cs : List Nat) : Nat := (cs.map facN).foldr (· * ·) 1
theorem pf_cons (c : Nat) (cs : List Nat) : pfN (c :: cs) = facN c * pfN cs := rfl
abbrev CNT := List (Nat × Nat)
def cntC (cs : CNT) (r : Nat) : Nat := ((cs.find? fun p => decide (p.1 = r)).map (·.2)).getD 0
def setC (cs : CNT) (r c : Nat) : CNT := cs.map fun p => if p.1 = r then (p.1, c) else p
def decC (cs : CNT) (r : Nat) : CNT := setC cs r (cntC cs r - 1)
def AscC (cs : CNT) : Prop := (cs.map (·.1)).Pairwise (· < ·)
def sumC (cs : CNT) : Nat := (cs.map (·.2)).sum
theorem cnt_cons {p : Nat × Nat} {cs : CNT} {r : Nat} : cntC (p :: cs) r = if p.1 = r then p.2 else cntC cs r := by
  unfold cntC
  rw [List.find?_cons]
  by_cases h : p.1 = r
  · simp [h]
  · simp [h]
theorem cnt_no {r : Nat} : ∀ {cs : CNT}, (∀ p ∈ cs, p.1 ≠ r) → cntC cs r = 0
  | [], _ => rfl
  | p :: cs, h => by rw [cnt_cons, if_neg (h p List.mem_cons_self), cnt_no fun q m => h q (List.mem_cons_of_mem _ m)]
theorem AscC.tail {p : Nat × Nat} {cs : CNT} (h : AscC (p :: cs)) : AscC cs ∧ ∀ q ∈ cs, p.1 < q.1 := by
  unfold AscC at h
  rw [List.map_cons, List.pairwise_cons] at h
  exact ⟨h.2, fun q m => h.1 _ (List.mem_map_of_mem m)⟩
theorem cnt_mem : ∀ {cs : CNT}, AscC cs → ∀ {p : Nat × Nat}, p ∈ cs → cntC cs p.1 = p.2
  | q :: cs, h, p, m => by
    rw [cnt_cons]
    obtain ⟨h1, h2⟩ := h.tail
    rcases List.mem_cons.mp m with rfl | m
    · rw [if_pos rfl]
    · rw [if_neg (by have := h2 p m; omega)]
      exact cnt_mem h1 m
theorem set_fst {cs : CNT} {r c : Nat} : (setC cs r c).map (·.1) = cs.map (·.1) := by
  unfold setC
  rw [List.map_map]
  refine List.map_congr_left fun p _ => ?_
  show (if p.1 = r then (p.1, c) else p).1 = p.1
  split <;> rfl
theorem asc_set {cs : CNT} {r c : Nat} (h : AscC cs) : AscC (setC cs r c) := by unfold AscC; rw [set_fst]; exact h
theorem set_cnt {r c : Nat} : ∀ {cs : CNT}, (∃ p ∈ cs, p.1 = r) → ∀ x, cntC (setC cs r c) x = if x = r then c else cntC cs x
  | [], h, x => by obtain ⟨p, m, _⟩ := h; cases m
  | p :: cs, h, x => by
    show cntC ((if p.1 = r then (p.1, c) else p) :: setC cs r c) x = _
    by_cases e : p.1 = r
    · rw [if_pos e, cnt_cons, cnt_cons]
      show (if p.1 = x then c else cntC (setC cs r c) x) = _
      by_cases ex : p.1 = x
      · rw [if_pos ex, if_pos (by omega)]
      · rw [if_neg ex, if_neg ex, if_neg (by omega)]
        by_cases h2 : ∃ q ∈ cs, q.1 = r
        · rw [set_cnt h2, if_neg (by omega)]
        · have : setC cs r c = cs := by
            unfold setC
            refine (List.map_congr_left fun q m => ?_).trans (List.map_id _)
            rw [if_neg (fun z => h2 ⟨q, m, z⟩)]
            rfl
          rw [this]
    · rw [if_neg e, cnt_cons, cnt_cons]
      have h2 : ∃ q ∈ cs, q.1 = r := by
        obtain ⟨q, m, eq⟩ := h
        rcases List.mem_cons.mp m with rfl | m
        · exact absurd eq e
        · exact ⟨q, m, eq⟩
      rw [set_cnt h2]
      by_cases ex : p.1 = x
      · rw [if_pos ex, if_pos ex, if_neg (by omega)]
      · rw [if_neg ex, if_neg ex]
theorem set_id {cs : CNT} {r c : Nat} (h : ∀ q ∈ cs, q.1 ≠ r) : setC cs r c = cs := by
  unfold setC
  refine (List.map_congr_left fun q m => ?_).trans (List.map_id _)
  rw [if_neg (h q m)]
  rfl
theorem set_mid {cs : CNT} {r c d : Nat} : ∀ {cs : CNT}, AscC cs → (r, d) ∈ cs → sumC (setC cs r c) + d = sumC cs + c ∧ pfN ((setC cs r c).map (·.2)) * facN d = pfN (cs.map (·.2)) * facN c
  | p :: cs, h, m => by
    obtain ⟨h1, h2⟩ := h.tail
    show sumC ((if p.1 = r then (p.1, c) else p) :: setC cs r c) + d = _ ∧ pfN (((if p.1 = r then (p.1, c) else p) :: setC cs r c).map (·.2)) * facN d = _
    rcases List.mem_cons.mp m with rfl | m
    · rw [if_pos rfl, set_id (fun q m => by have := h2 q m; dsimp only at this; omega)]
      unfold sumC
      rw [List.map_cons, List.map_cons, List.sum_cons, List.sum_cons, pf_cons, pf_cons]
      dsimp only
      refine ⟨by omega, ?_⟩
      rw [Nat.mul_comm (facN c), Nat.mul_assoc, Nat.mul_comm (facN c), ← Nat.mul_assoc, Nat.mul_comm _ (facN d)]
    · have hne : p.1 ≠ r := fun z => by have := h2 _ m; dsimp only at this; omega
      obtain ⟨i1, i2⟩ := set_mid (cs := cs) (c := c) h1 m
      rw [if_neg hne]
      unfold sumC at i1 ⊢
      rw [List.map_cons, List.map_cons, List.sum_cons, List.sum_cons, pf_cons, pf_cons, Nat.mul_assoc, i2, Nat.mul_assoc]
      exact ⟨by omega, rfl⟩
def plN : Nat → CNT → List (List Nat)
  | 0, _ => [[]]
  | n + 1, cs => cs.flatMap fun p => if p.2 = 0 then [] else (plN n (decC cs p.1)).map (p.1 :: ·)
def blkN (n : Nat) (cs : CNT) (p : Nat × Nat) : Nat := if p.2 = 0 then 0 else (plN n (decC cs p.1)).length
end Pz
set_option maxRecDepth 100000
namespace Pz
open PySem PySem.W
variable [PenC]
def iL (t : List Nat) : List Int := t.map fun n : Nat => (n : Int)
def tpL (t : List Nat) : PyData := .tuple (t.map fun n : Nat => .int (n : Int))
theorem tpL_iL (t : List Nat) : tpL t = .tuple ((iL t).map .int) := by unfold tpL iL; rw [List.map_map]; rfl
def leL (a b : List Nat) : Bool := !decide (iL b < iL a)
def incC (cs : CNT) (x : Nat) : CNT := if (cs.any fun p => decide (p.1 = x)) = true then setC cs x (cntC cs x + 1) else cs ++ [(x, 1)]
structure CntOf (cs : CNT) (pre : List Nat) : Prop where
  asc : AscC cs
  cnt : ∀ r, cntC cs r = pre.count r
  mem : ∀ p ∈ cs, p.1 ∈ pre
  sum : sumC cs = pre.length
theorem any_ex {cs : CNT} {x : Nat} : (cs.any fun p => decide (p.1 = x)) = true ↔ ∃ p ∈ cs, p.1 = x := by
  rw [List.any_eq_true]
  exact ⟨fun ⟨p, m, e⟩ => ⟨p, m, of_decide_eq_true e⟩, fun ⟨p, m, e⟩ => ⟨p, m, decide_eq_true e⟩⟩
theorem cnt_app {cs : CNT} {x c r : Nat} (h : ∀ p ∈ cs, p.1 ≠ x) : cntC (cs ++ [(x, c)]) r = if r = x then c else cntC cs r := by
  induction cs with
  | nil =>
    rw [List.nil_append, cnt_cons]
    by_cases e : x = r
    · rw [if_pos e, if_pos e.symm]
    · rw [if_neg e, if_neg (fun z => e z.symm)]
  | cons p cs ih =>
    rw [List.cons_append, cnt_cons, cnt_cons, ih fun q m => h q (List.mem_cons_of_mem _ m)]
    have := h p List.mem_cons_self
    by_cases e : p.1 = r
    · rw [if_pos e, if_pos e, if_neg (by omega)]
    · rw [if_neg e, if_neg e]
theorem CntOf.step {cs : CNT} {pre : List Nat} {x : Nat} (h : CntOf cs pre) (hx : ∀ y ∈ pre, y ≤ x) : CntOf (incC cs x) (pre ++ [x]) := by
  unfold incC
  have hc : ∀ r, (pre ++ [x]).count r = if r = x then pre.count r + 1 else pre.count r := fun r => by
    rw [List.count_append, List.count_singleton]
    by_cases e : r = x
    · subst e; simp
    · rw [if_neg (by simpa using fun z : x = r => e z.symm), if_neg e]; rfl
  split
  · rename_i ha
    have ex := any_ex.mp ha
    refine ⟨asc_set h.asc, fun r => ?_, fun p m => ?_, ?_⟩
    · rw [set_cnt ex, hc, h.cnt, h.cnt]
      by_cases e : r = x
      · rw [if_pos e, if_pos e, e]
      · rw [if_neg e, if_neg e]
    · have : p.1 ∈ (setC cs x (cntC cs x + 1)).map (·.1) := List.mem_map_of_mem m
      rw [set_fst] at this
      obtain ⟨q, mq, e⟩ := List.mem_map.mp this
      rw [← e]
      exact List.mem_append_left _ (h.mem q mq)
    · obtain ⟨p, mp, rfl⟩ := ex
      have := (set_mid (cs := cs) (c := cntC cs p.1 + 1) h.asc (show (p.1, p.2) ∈ cs from mp)).1
      rw [cnt_mem h.asc mp] at this ⊢
      rw [List.length_append, List.length_singleton, ← h.sum]
      omega
  · rename_i ha
    have nx : ∀ p ∈ cs, p.1 ≠ x := fun p m e => ha (any_ex.mpr ⟨p, m, e⟩)
    have n0 : pre.count x = 0 := by rw [← h.cnt, cnt_no nx]
    refine ⟨?_, fun r => ?_, fun p m => ?_, ?_⟩
    · unfold AscC
      rw [List.map_append, List.pairwise_append]
      refine ⟨h.asc, List.pairwise_singleton _ _, fun a ma b mb => ?_⟩
      obtain ⟨p, mp, rfl⟩ := List.mem_map.mp ma
      have : b = x := by simpa using mb
      subst this
      have h1 := hx _ (h.mem p mp)
      have h2 := nx p mp
      omega
    · rw [cnt_app nx, hc, h.cnt]
      by_cases e : r = x
      · rw [if_pos e, if_pos e, e, n0]
      · rw [if_neg e, if_neg e]
    · rcases List.mem_append.mp m with m | m
      · exact List.mem_append_left _ (h.mem p m)
      · rw [List.mem_singleton.mp m]; exact List.mem_append_right _ List.mem_cons_self
    · unfold sumC
      rw [List.map_append, List.sum_append, List.length_append]
      have := h.sum
      unfold sumC at this
      simp
      omega
def cntL (s : List Nat) : CNT := s.foldl incC []
def kdCn (cs : CNT) : KD := cs.map fun p => (.inl (p.1 : Int), .int (p.2 : Nat))
def keL (t : List Nat) : List L2.Key := t.map fun n : Nat => .inl (n : Int)
def kdT (K : List (List Nat)) : KTD := K.map fun t => (keL t, .bool true)
def addK (M : List (List Nat)) (t : List Nat) : List (List Nat) := if t ∈ M then M else M ++ [t]
def insK (t : List Nat) (k x : Nat) : List Nat := t.take k ++ [x] ++ t.drop k
end Pz
set_option maxRecDepth 100000
namespace Pz
open PySem PySem.Spec PyProof.Rows L2 TL PySem.W
variable [PenC]
def CrN (f : Nat → Nat) (n : Nat) : Prop := (0 < n → f 0 = 0) ∧ ∀ i, i + 1 < n → f (i + 1) ≤ f i + 1
def lstP (f : Nat → Nat) (l : Nat) : Nat → Option Nat
  | 0 => none
  | i + 1 => if f i = l then some i else lstP f l i
def parP (f : Nat → Nat) (i : Nat) : Option Nat := if f i = 0 then none else lstP f (f i - 1) i
def lenP (f : Nat → Nat) : Nat → Nat
  | 0 => 0
  | i + 1 => f i + 1
def pthP (f : Nat → Nat) (i : Nat) : List Nat := (List.range (lenP f i)).map fun l => (lstP f l i).getD 0
theorem lvl_le {f : Nat → Nat} {n i : Nat} (h : CrN f n) (hi : i < n) : f i ≤ lenP f i := by
  cases i with
  | zero => rw [h.1 hi]; exact Nat.zero_le _
  | succ i => exact h.2 i hi
theorem pth_len {f : Nat → Nat} {i : Nat} : (pthP f i).length = lenP f i := by simp [pthP]
theorem pth_step {f : Nat → Nat} {n i : Nat} (h : CrN f n) (hi : i < n) : pthP f (i + 1) = (pthP f i).take (f i) ++ [i] := by
  have hl := lvl_le h hi
  unfold pthP
  rw [show lenP f (i + 1) = f i + 1 from rfl, List.range_succ, List.map_append, ← List.map_take, List.take_range, Nat.min_eq_left hl]
  congr 1
  · refine List.map_congr_left fun l hl => ?_
    have : l < f i := List.mem_range.mp hl
    rw [lstP, if_neg (by omega)]
  · simp [lstP]
theorem lst_some {f : Nat → Nat} {n : Nat} (h : CrN f n) : ∀ (i l : Nat), i ≤ n → l < lenP f i → ∃ k, lstP f l i = some k
  | 0, l, _, hl => by simp [lenP] at hl
  | i + 1, l, hi, hl => by
    rw [lstP]
    by_cases e : f i = l
    · exact ⟨i, if_pos e⟩
    · rw [if_neg e]
      have h1 : l < f i + 1 := hl
      have h2 := lvl_le h (show i < n by omega)
      exact lst_some h i l (by omega) (by omega)
theorem pth_par {f : Nat → Nat} {n i : Nat} (h : CrN f n) (hi : i < n) (h0 : 0 < f i) : ∃ k, parP f i = some k ∧ (pthP f (i + 1))[f i - 1]? = some k := by
  have h2 := lvl_le h hi
  obtain ⟨k, e⟩ := lst_some h i (f i - 1) (by omega) (by omega)
  refine ⟨k, by rw [parP, if_neg (by omega)]; exact e, ?_⟩
  unfold pthP
  rw [List.getElem?_map, List.getElem?_range (show f i - 1 < lenP f (i + 1) by show f i - 1 < f i + 1; omega)]
  rw [Option.map_some, lstP, if_neg (by omega), e]
  rfl
theorem lst_filter {f : Nat → Nat} {l : Nat} : ∀ i, ((List.range i).filter fun j => decide (f j = l)).getLast? = lstP f l i
  | 0 => rfl
  | i + 1 => by
    rw [List.range_succ, List.filter_append, lstP]
    by_cases e : f i = l
    · rw [if_pos e]; simp [e]
    · rw [if_neg e]; simp [e, lst_filter i]
theorem lst_lt {f : Nat → Nat} {l k : Nat} : ∀ {i : Nat}, lstP f l i = some k → k < i ∧ f k = l ∧ ∀ j, k < j → j < i → f j ≠ l
  | 0, h => by cases h
  | i + 1, h => by
    rw [lstP] at h
    by_cases e : f i = l
    · rw [if_pos e] at h
      cases h
      exact ⟨by omega, e, fun j h1 h2 => by omega⟩
    · rw [if_neg e] at h
      obtain ⟨h1, h2, h3⟩ := lst_lt h
      exact ⟨by omega, h2, fun j g1 g2 => if g : j = i then by rw [g]; exact e else h3 j g1 (by omega)⟩
theorem par_lt {f : Nat → Nat} {i k : Nat} (h : parP f i = some k) : k < i := by
  unfold parP at h
  split at h
  · cases h
  · exact (lst_lt h).1
abbrev Grp := List (Option Nat × List Nat)
def addP : Grp → Option Nat → Nat → Grp
  | [], k, i => [(k, [i])]
  | (k', b) :: r, k, i => if k' = k then (k', b ++ [i]) :: r else (k', b) :: addP r k i
def grpP (f : Nat → Nat) : Nat → Grp
  | 0 => []
  | i + 1 => addP (grpP f i) (parP f i) i
def blkP (f : Nat → Nat) (i : Nat) (k : Option Nat) : List Nat := (List.range i).filter fun j => decide (parP f j = k)
def ofP (f : Nat → Nat) (i : Nat) (k : Option Nat) : Option (Option Nat × List Nat) := if blkP f i k = [] then none else some (k, blkP f i k)
def tgtP (f : Nat → Nat) (i : Nat) : Grp := (none :: (List.range i).map some).filterMap (ofP f i)
theorem blkP_succ {f : Nat → Nat} {i : Nat} {k : Option Nat} : blkP f (i + 1) k = blkP f i k ++ if parP f i = k then [i] else [] := by
  unfold blkP
  rw [List.range_succ, List.filter_append]
  by_cases e : parP f i = k <;> simp [e]
theorem add_new {k : Option Nat} {i : Nat} : ∀ {l : Grp}, (∀ p ∈ l, p.1 ≠ k) → addP l k i = l ++ [(k, [i])]
  | [], _ => rfl
  | (k', b) :: r, h => by
    rw [addP, if_neg (h _ List.mem_cons_self), add_new fun p m => h p (List.mem_cons_of_mem _ m)]
    rfl
theorem ofK_key {f : Nat → Nat} {i : Nat} {k : Option Nat} {p : Option Nat × List Nat} (h : ofP f i k = some p) : p.1 = k ∧ p.2 = blkP f i k ∧ blkP f i k ≠ [] := by
  unfold ofP at h
  split at h
  · cases h
  · rename_i hn; cases h; exact ⟨rfl, rfl, hn⟩
theorem ofP_same {f : Nat → Nat} {i : Nat} {k' : Option Nat} (h : k' ≠ parP f i) : ofP f (i + 1) k' = ofP f i k' := by
  have e : blkP f (i + 1) k' = blkP f i k' := by rw [blkP_succ, if_neg (fun z => h z.symm), List.append_nil]
  unfold ofP
  rw [e]
theorem fm_congr {α β : Type} {f g : α → Option β} : ∀ {l : List α}, (∀ x ∈ l, f x = g x) → l.filterMap f = l.filterMap g
  | [], _ => rfl
  | x :: l, h => by
    rw [List.filterMap_cons, List.filterMap_cons, h x List.mem_cons_self, fm_congr fun y m => h y (List.mem_cons_of_mem _ m)]
theorem add_old {f : Nat → Nat} {i : Nat} (hk : blkP f i (parP f i) ≠ []) : ∀ {ks : List (Option Nat)}, ks.Nodup → parP f i ∈ ks → addP (ks.filterMap (ofP f i)) (parP f i) i = ks.filterMap (ofP f (i + 1))
  | [], _, m => by cases m
  | k :: ks, nd, m => by
    have same : ∀ k', k' ≠ parP f i → ofP f (i + 1) k' = ofP f i k' := fun k' h => ofP_same h
    rw [List.nodup_cons] at nd
    by_cases e : k = parP f i
    · subst e
      have r : ∀ k' ∈ ks, ofP f (i + 1) k' = ofP f i k' := fun k' m' => same k' fun z => nd.1 (by rw [← z]; exact m')
      have e1 : ofP f i (parP f i) = some (parP f i, blkP f i (parP f i)) := by unfold ofP; rw [if_neg hk]
      have e2 : ofP f (i + 1) (parP f i) = some (parP f i, blkP f i (parP f i) ++ [i]) := by
        unfold ofP
        rw [blkP_succ, if_pos rfl, if_neg (by simp)]
      rw [List.filterMap_cons_some e1, List.filterMap_cons_some e2, addP, if_pos rfl, fm_congr r]
    · have m' : parP f i ∈ ks := by
        rcases List.mem_cons.mp m with z | z
        · exact absurd z.symm e
        · exact z
      have ih := add_old hk nd.2 m'
      cases eo : ofP f i k with
      | none => rw [List.filterMap_cons_none eo, List.filterMap_cons_none (by rw [same k e]; exact eo), ih]
      | some p =>
        rw [List.filterMap_cons_some eo, List.filterMap_cons_some (by rw [same k e]; exact eo)]
        obtain ⟨k', b⟩ := p
        have hk' : k' = k := (ofK_key eo).1
        rw [addP, if_neg (by rw [hk']; exact e), ih]
theorem first_child {f : Nat → Nat} {n i k : Nat} (h : CrN f n) (hi : i < n) (hp : parP f i = some k) (he : blkP f i (some k) = []) : i = k + 1 := by
  have hpi := hp
  unfold parP at hp
  split at hp
  · cases hp
  · rename_i h0
    obtain ⟨h1, h2, h3⟩ := lst_lt hp
    rcases Nat.lt_or_ge (k + 1) i with hlt | hge
    · exfalso
      have a1 := h.2 k (by omega)
      have a2 := h3 (k + 1) (by omega) hlt
      by_cases a3 : f (k + 1) = f k + 1
      · have : parP f (k + 1) = some k := by
          unfold parP
          rw [if_neg (by omega), a3, Nat.add_sub_cancel, lstP, if_pos rfl]
        have m : k + 1 ∈ blkP f i (some k) := List.mem_filter.mpr ⟨List.mem_range.mpr hlt, by simp [this]⟩
        rw [he] at m
        cases m
      · have low : ∀ d, k + 1 + d ≤ i → f (k + 1 + d) < f k := fun d => by
          induction d with
          | zero => intro _; show f (k + 1) < f k; omega
          | succ d ih =>
            intro hd
            have b1 := ih (by omega)
            have b2 := h.2 (k + 1 + d) (by omega)
            rw [show k + 1 + (d + 1) = k + 1 + d + 1 from rfl]
            rcases Nat.lt_or_ge (k + 1 + d + 1) i with c | c
            · have := h3 (k + 1 + d + 1) (by omega) c
              omega
            · have c2 : k + 1 + d + 1 = i := by omega
              rw [c2] at b2 ⊢
              omega
        have := low (i - (k + 1)) (by omega)
        rw [show k + 1 + (i - (k + 1)) = i by omega] at this
        omega
    · omega
theorem grpP_tgt {f : Nat → Nat} {n : Nat} (h : CrN f n) : ∀ i, i ≤ n → grpP f i = tgtP f i
  | 0, _ => by simp [grpP, tgtP, ofP, blkP]
  | i + 1, hi => by
    rw [grpP, grpP_tgt h i (by omega)]
    have hnew : ofP f (i + 1) (some i) = none := by
      unfold ofP
      rw [if_pos]
      unfold blkP
      rw [List.filter_eq_nil_iff]
      intro j hj e
      have := par_lt (of_decide_eq_true e)
      have := List.mem_range.mp hj
      omega
    have e1 : tgtP f (i + 1) = (none :: (List.range i).map some).filterMap (ofP f (i + 1)) := by
      unfold tgtP
      rw [List.range_succ, List.map_append, ← List.cons_append, List.filterMap_append, List.map_singleton, List.filterMap_cons_none hnew]
      simp
    have nd : (none :: (List.range i).map some).Nodup := by
      rw [List.nodup_cons]
      refine ⟨by simp, ?_⟩
      exact List.pairwise_map.mpr (List.nodup_range.imp fun h e => h (Option.some.inj e))
    have mem : parP f i ∈ (none :: (List.range i).map some) := by
      cases e : parP f i with
      | none => exact List.mem_cons_self
      | some k => exact List.mem_cons_of_mem _ (List.mem_map.mpr ⟨k, List.mem_range.mpr (par_lt e), rfl⟩)
    rw [e1]
    by_cases hk : blkP f i (parP f i) = []
    · rw [tgtP, add_new (fun p m e => by
        obtain ⟨k, _, ek⟩ := List.mem_filterMap.mp m
        obtain ⟨g1, g2, g3⟩ := ofK_key ek
        rw [← g1, e] at g3
        exact g3 hk)]
      have e2 : ofP f (i + 1) (parP f i) = some (parP f i, [i]) := by
        unfold ofP
        rw [blkP_succ, if_pos rfl, hk, if_neg (by simp)]
        rfl
      have e0 : ofP f i (parP f i) = none := by unfold ofP; rw [if_pos hk]
      have same : ∀ k', k' ≠ parP f i → ofP f (i + 1) k' = ofP f i k' := fun k' h => ofP_same h
      cases e : parP f i with
      | none =>
        have hi0 : i = 0 := by
          rcases Nat.eq_zero_or_pos i with z | z
          · exact z
          · exfalso
            have h0 : parP f 0 = none := by unfold parP; rw [if_pos (h.1 (by omega))]
            have m : 0 ∈ blkP f i none := List.mem_filter.mpr ⟨List.mem_range.mpr z, by simp [h0]⟩
            rw [e] at hk
            rw [hk] at m
            cases m
        subst hi0
        rw [e] at e2 e0
        simp only [List.range_zero, List.map_nil]
        rw [List.filterMap_cons_none e0, List.filterMap_cons_some e2]
        rfl
      | some k =>
        rw [e] at hk
        have hik := first_child h (by omega) e hk
        subst hik
        rw [e] at e2 e0
        rw [List.range_succ, List.map_append, ← List.cons_append, List.filterMap_append, List.filterMap_append, List.map_singleton, List.filterMap_cons_none e0, List.filterMap_cons_some e2, List.filterMap_nil, List.filterMap_nil, List.append_nil]
        congr 1
        refine fm_congr fun k' m' => (same k' fun z => ?_).symm
        rw [e] at z
        subst z
        rcases List.mem_cons.mp m' with z | z
        · cases z
        · obtain ⟨j, hj, ej⟩ := List.mem_map.mp z
          injection ej with ej
          have := List.mem_range.mp hj
          omega
    · rw [tgtP]
      exact add_old hk nd mem
def dpR (f : Nat → Nat) (n : Nat) : List PyData := (List.range n).map fun i => .int (f i : Nat)
def dpT (f : Nat → Nat) (n : Nat) : PyData := .tuple (dpR f n)
def oND : Option Nat → PyData
  | none => .none
  | some k => .int (k : Nat)
def oNI : Option Nat → Option Int := Option.map fun k => (k : Int)
def paL (f : Nat → Nat) (n : Nat) : List PyData := (List.range n).map fun i => oND (parP f i)
def nuN (l : List Nat) : List PyData := l.map fun n : Nat => .int (n : Int)
theorem rg_from {α : Type} (g : Nat → α) (n i : Nat) (h : i < n) : (List.range' i (n - i)).map g = g i :: (List.range' (i + 1) (n - (i + 1))).map g := by
  rw [show n - i = (n - (i + 1)) + 1 by omega, List.range'_succ, List.map_cons]
theorem rg_zero {α : Type} (g : Nat → α) (n : Nat) : (List.range n).map g = (List.range' 0 (n - 0)).map g := by
  rw [Nat.sub_zero, List.range_eq_range']
theorem dp_fun : ∀ (L : List Int), dpB (-1) L → CrN (fun i => (L.getD i 0).toNat) L.length ∧ L.map PyData.int = dpR (fun i => (L.getD i 0).toNat) L.length := by
  intro L h
  have nn : ∀ (L : List Int) (b : Int), -1 ≤ b → dpB b L → (∀ x ∈ L, 0 ≤ x) ∧ (0 < L.length → L.getD 0 0 ≤ b + 1) ∧ ∀ i, i + 1 < L.length → L.getD (i + 1) 0 ≤ L.getD i 0 + 1 := by
    intro L
    induction L with
    | nil => intro b _ _; exact ⟨fun x m => (by cases m), fun h => absurd h (by simp), fun i h => (by simp at h)⟩
    | cons x r ih =>
      rintro b hb ⟨h1, h2, h3⟩
      obtain ⟨i1, i2, i3⟩ := ih x (by omega) h3
      refine ⟨fun y m => ?_, fun _ => by simpa using h2, fun i hi => ?_⟩
      · rcases List.mem_cons.mp m with e | m
        · rw [e]; exact h1
        · exact i1 y m
      · cases i with
        | zero =>
          have := i2 (by simpa using hi)
          simpa using this
        | succ i => simpa using i3 i (by simpa using hi)
  obtain ⟨n1, n2, n3⟩ := nn L (-1) (Int.le_refl _) h
  have nz : ∀ i, i < L.length → 0 ≤ L.getD i 0 := fun i hi => by
    have e : L.getD i 0 = L[i] := by simp [List.getD, hi]
    rw [e]
    exact n1 _ (List.getElem_mem hi)
  refine ⟨⟨fun h0 => ?_, fun i hi => ?_⟩, ?_⟩
  · have a := n2 h0
    show (L.getD 0 0).toNat = 0
    omega
  · have a := n3 i hi
    have b := nz i (by omega)
    show (L.getD (i + 1) 0).toNat ≤ (L.getD i 0).toNat + 1
    omega
  · refine List.ext_getElem (by simp [dpR]) fun i h1 h2 => ?_
    have hi : i < L.length := by simpa using h1
    have e : L.getD i 0 = L[i] := by simp [List.getD, hi]
    have := nz i hi
    rw [e] at this
    simp only [dpR, List.getElem_map, List.getElem_range, e]
    congr 1
    omega
theorem dp_at {f : Nat → Nat} {n i : Nat} (h : i < n) : (dpR f n)[i]? = some (.int (f i : Nat)) := by
  unfold dpR
  rw [List.getElem?_map, List.getElem?_range h]; rfl
theorem pa_at {f : Nat → Nat} {n i : Nat} (h : i < n) : (paL f n)[i]? = some (oND (parP f i)) := by
  unfold paL
  rw [List.getElem?_map, List.getElem?_range h]; rfl
def inR : PyData → Int
  | .int i => i
  | _ => 0
def fnD (ds : List PyData) (i : Nat) : Nat := (inR (ds.getD i (.int 0))).toNat
def OkR (ds : List PyData) : Prop := ds = dpR (fnD ds) ds.length ∧ CrN (fnD ds) ds.length
theorem okR_of {L : List Int} (h : dpB (-1) L) : OkR (L.map .int) := by
  obtain ⟨h1, h2⟩ := dp_fun L h
  have e : fnD (L.map .int) = fun i => (L.getD i 0).toNat := by
    funext i
    unfold fnD
    by_cases hi : i < L.length
    · simp [List.getD, hi, inR]
    · simp [List.getD, hi, inR]
  unfold OkR
  rw [List.length_map, e]
  exact ⟨h2, h1⟩
theorem dpR_len {f : Nat → Nat} {n : Nat} : (dpR f n).length = n := by simp [dpR]
theorem pth_data {f : Nat → Nat} {n i : Nat} (h : CrN f n) (hi : i < n) : Pz.cutD (nuN (pthP f i)) none (some (f i : Int)) ++ [PyData.int (i : Nat)] = nuN (pthP f (i + 1)) := by
  rw [cut_take (Int.natCast_nonneg _), Int.toNat_natCast, pth_step h hi]
  simp [nuN, List.map_take]
theorem len_le {f : Nat → Nat} {n : Nat} (h : CrN f n) : ∀ i, i ≤ n → lenP f i ≤ i
  | 0, _ => Nat.le_refl _
  | i + 1, hi => by
    have := lvl_le h (show i < n by omega)
    have := len_le h i (by omega)
    show f i + 1 ≤ i + 1
    omega
theorem pa_snoc {f : Nat → Nat} {i : Nat} : paL f i ++ [oND (parP f i)] = paL f (i + 1) := by
  unfold paL
  rw [List.range_succ, List.map_append]; rfl
theorem pa_len {f : Nat → Nat} {n : Nat} : (paL f n).length = n := by simp [paL]
theorem oNI_inj {a b : Option Nat} (h : oNI a = oNI b) : a = b := by
  cases a <;> cases b <;> simp [oNI] at h ⊢
  omega
theorem oK_oND (k : Option Nat) : oK (oND k) = some (oNI k) := by cases k <;> rfl
inductive GrR (st : Sto) : KNS → List Nat → Grp → Prop
  | nil : GrR st [] [] []
  | cons {k : Option Nat} {j : Nat} {b : List Nat} {kvs : KNS} {js : List Nat} {G : Grp} (h1 : 1 ≤ j) (e : st[j]? = some (.lst (nuN b))) (nj : j ∉ js) (r : GrR st kvs js G) : GrR st ((oNI k, .o j) :: kvs) (j :: js) ((k, b) :: G)
theorem GrR.mono {st st' : Sto} {kvs : KNS} {js : List Nat} {G : Grp} (h : GrR st kvs js G) : (∀ j ∈ js, st'[j]? = st[j]?) → GrR st' kvs js G := by
  induction h with
  | nil => intro _; exact .nil
  | cons h1 e nj r ih => intro hs; exact .cons h1 (by rw [hs _ List.mem_cons_self]; exact e) nj (ih fun j m => hs j (List.mem_cons_of_mem _ m))
theorem GrR.lt {st : Sto} {kvs : KNS} {js : List Nat} {G : Grp} (h : GrR st kvs js G) : ∀ j ∈ js, 1 ≤ j ∧ j < st.length := by
  induction h with
  | nil => intro j m; cases m
  | cons h1 e nj r ih =>
    intro j m
    rcases List.mem_cons.mp m with z | m
    · rw [z]; exact ⟨h1, (List.getElem?_eq_some_iff.mp e).1⟩
    · exact ih j m
theorem GrR.len {st : Sto} {kvs : KNS} {js : List Nat} {G : Grp} (h : GrR st kvs js G) : kvs.length = G.length := by
  induction h with
  | nil => rfl
  | cons h1 e nj r ih => simp [ih]
theorem GrR.gn {st : Sto} {kvs : KNS} {js : List Nat} {G : Grp} {h0 : Nat} (h : GrR st kvs js G) : GnOk st 0 h0 kvs (G.map fun p => (oNI p.1, nuN p.2)) := by
  induction h with
  | nil => exact .nil
  | cons h1 e nj r ih => exact .cons (Nat.zero_le _) e ih
theorem GrR.old {st : Sto} {kvs : KNS} {js : List Nat} {G : Grp} {k : Option Nat} {i : Nat} {s : Sl} (h : GrR st kvs js G) : getN kvs (oNI k) = some s → ∃ j b, (k, b) ∈ G ∧ j ∈ js ∧ s = .o j ∧ st[j]? = some (.lst (nuN b)) ∧ ∀ st' : Sto, st'[j]? = some (.lst (nuN (b ++ [i]))) → (∀ j' ∈ js, j' ≠ j → st'[j']? = st[j']?) → GrR st' kvs js (addP G k i) := by
  induction h with
  | nil => intro e; cases e
  | cons h1 e nj r ih =>
    rename_i k' j b kvs js G
    intro hg
    rw [getN_cons] at hg
    by_cases hk : oNI k' = oNI k
    · rw [if_pos hk] at hg
      cases hg
      have := oNI_inj hk
      subst this
      refine ⟨j, b, List.mem_cons_self, List.mem_cons_self, rfl, e, fun st' g1 g2 => ?_⟩
      rw [addP, if_pos rfl]
      exact .cons h1 g1 nj (r.mono fun j' m => g2 j' (List.mem_cons_of_mem _ m) fun z => nj (by rw [← z]; exact m))
    · rw [if_neg hk] at hg
      obtain ⟨j2, b2, m1, m2, e1, e2, e3⟩ := ih hg
      refine ⟨j2, b2, List.mem_cons_of_mem _ m1, List.mem_cons_of_mem _ m2, e1, e2, fun st' g1 g2 => ?_⟩
      rw [addP, if_neg (fun z => hk (by rw [z]))]
      exact .cons h1 (by rw [g2 j List.mem_cons_self (fun z => nj (by rw [z]; exact m2))]; exact e) nj (e3 st' g1 fun j' m => g2 j' (List.mem_cons_of_mem _ m))
theorem GrR.new {st st' : Sto} {kvs : KNS} {js : List Nat} {G : Grp} {k : Option Nat} {i j : Nat} (h : GrR st kvs js G) (hj : 1 ≤ j) (nj : j ∉ js) (e' : st'[j]? = some (.lst (nuN [i]))) : getN kvs (oNI k) = none → (∀ j' ∈ js, st'[j']? = st[j']?) → GrR st' (kvs ++ [(oNI k, .o j)]) (js ++ [j]) (addP G k i) := by
  induction h with
  | nil => intro _ _; exact .cons hj e' (by simp) .nil
  | cons h1 e nj2 r ih =>
    rename_i k' j2 b kvs js G
    intro hg hs
    rw [getN_cons] at hg
    by_cases hk : oNI k' = oNI k
    · rw [if_pos hk] at hg; cases hg
    · rw [if_neg hk] at hg
      rw [addP, if_neg (fun z => hk (by rw [z]))]
      refine .cons h1 (by rw [hs _ List.mem_cons_self]; exact e) (fun m => ?_) (ih (fun m => nj (List.mem_cons_of_mem _ m)) hg fun j' m => hs j' (List.mem_cons_of_mem _ m))
      rcases List.mem_append.mp m with m | m
      · exact nj2 m
      · exact nj (by rw [← List.mem_singleton.mp m]; exact List.mem_cons_self)
theorem addP_len {k : Option Nat} {i : Nat} : ∀ {G : Grp}, (addP G k i).length ≤ G.length + 1
  | [] => by simp [addP]
  | (k', b) :: r => by
    rw [addP]
    split
    · simp
    · have := addP_len (k := k) (i := i) (G := r)
      simp only [List.length_cons]
      omega
theorem grpP_len {f : Nat → Nat} : ∀ i, (grpP f i).length ≤ i
  | 0 => Nat.le_refl _
  | i + 1 => by
    have := grpP_len (f := f) i
    have := addP_len (G := grpP f i) (k := parP f i) (i := i)
    show (addP (grpP f i) (parP f i) i).length ≤ i + 1
    omega
theorem addP_bd {k : Option Nat} {i n : Nat} : ∀ {G : Grp}, (∀ p ∈ G, p.2.length ≤ n) → ∀ p ∈ addP G k i, p.2.length ≤ n + 1
  | [], _, p, m => by
    rw [addP, List.mem_singleton] at m
    rw [m]; simp
  | (k', b) :: r, h, p, m => by
    rw [addP] at m
    have hb := h _ List.mem_cons_self
    split at m
    · rcases List.mem_cons.mp m with e | m
      · rw [e]; simpa using hb
      · have := h p (List.mem_cons_of_mem _ m); omega
    · rcases List.mem_cons.mp m with e | m
      · rw [e]; exact Nat.le_succ_of_le hb
      · exact addP_bd (fun q mq => h q (List.mem_cons_of_mem _ mq)) p m
theorem grpP_bd {f : Nat → Nat} : ∀ i, ∀ p ∈ grpP f i, p.2.length ≤ i
  | 0, p, m => by cases m
  | i + 1, p, m => addP_bd (grpP_bd i) p m
theorem nuN_snoc {b : List Nat} {i : Nat} : nuN b ++ [PyData.int (i : Nat)] = nuN (b ++ [i]) := by simp [nuN]
theorem addP_ne {k : Option Nat} {i : Nat} : ∀ {G : Grp}, (∀ p ∈ G, p.2 ≠ []) → ∀ p ∈ addP G k i, p.2 ≠ []
  | [], _, p, m => by
    rw [addP, List.mem_singleton] at m
    rw [m]; simp
  | (k', b) :: r, h, p, m => by
    rw [addP] at m
    split at m
    · rcases List.mem_cons.mp m with e | m
      · rw [e]; simp
      · exact h p (List.mem_cons_of_mem _ m)
    · rcases List.mem_cons.mp m with e | m
      · rw [e]; exact h _ List.mem_cons_self
      · exact addP_ne (fun q mq => h q (List.mem_cons_of_mem _ mq)) p m
theorem grpP_ne {f : Nat → Nat} : ∀ i, ∀ p ∈ grpP f i, p.2 ≠ []
  | 0, p, m => by cases m
  | i + 1, p, m => addP_ne (grpP_ne i) p m
theorem sort_blk {G : Grp} (h : ∀ p ∈ G, p.2 ≠ []) : AllAlike (G.map fun p => tpL p.2) ∧ Sortable (G.map fun p => tpL p.2) ∧ ∀ d ∈ G.map fun p => tpL p.2, d.depth ≤ 50 := by
  refine ⟨fun d hd e he => ?_, .inl fun d hd => ?_, fun d hd => ?_⟩
  · obtain ⟨a, _, rfl⟩ := List.mem_map.mp hd
    obtain ⟨b, _, rfl⟩ := List.mem_map.mp he
    rw [tpL_iL, tpL_iL]
    rw [alike]; exact PySem.W.alike_ints _ _
  · obtain ⟨⟨k, b⟩, ma, rfl⟩ := List.mem_map.mp hd
    cases b with
    | nil => exact absurd rfl (h _ ma)
    | cons x r => exact ⟨_, _, rfl⟩
  · obtain ⟨a, ma, rfl⟩ := List.mem_map.mp hd
    rw [tpL_iL, PyData.depth, depth_ints]
    omega
def lstT : PyData → PyData
  | .list l => .tuple l
  | d => d
theorem ret0_last {S : Sto} {ds : List PyData} {Q : DK} (q : Q (.o 0) [.lst ds]) : Ret 0 (.o S.length) (S ++ [.lst ds]) Q := by
  refine ⟨fun c m => by simp at m, ?_⟩
  dsimp only
  rw [if_neg (Nat.not_lt_zero _)]
  have e : (S ++ [Ct.lst ds])[S.length]? = some (.lst ds) := by simp
  rw [e]
  exact ⟨trivial, trivial, q⟩
def selP (f : Nat → Nat) (l : Int) (d : PyData) : Option PyData := match d with
  | .int j => if (f j.toNat : Int) = l then some d else none
  | _ => none
theorem sel_rng {f : Nat → Nat} {l i : Nat} : (rng 0 i).filterMap (selP f (l : Int)) = nuN ((List.range i).filter fun j => decide (f j = l)) := by
  unfold rng nuN
  generalize List.range i = L
  induction L with
  | nil => rfl
  | cons j L ih =>
    rw [List.map_cons, List.filterMap_cons, ih, List.filter_cons]
    simp only [selP, Int.zero_add, Int.toNat_natCast]
    by_cases e : f j = l
    · rw [if_pos (by omega), if_pos (by simpa using e)]; simp
    · rw [if_neg (by omega), if_neg (by simpa using e)]
theorem sel_neg {f : Nat → Nat} {i : Nat} : (rng 0 i).filterMap (selP f (-1)) = [] := by
  rw [List.filterMap_eq_nil_iff]
  intro d m
  unfold rng at m
  obtain ⟨j, _, rfl⟩ := List.mem_map.mp m
  unfold selP
  dsimp only
  rw [if_neg (by omega)]
theorem atI_last {α : Type} {xs : List α} {y : α} (h : xs.getLast? = some y) : atI xs (-1) = some y := by
  rcases List.eq_nil_or_concat xs with rfl | ⟨a, x, rfl⟩
  · cases h
  · rw [List.concat_eq_append] at h ⊢
    rw [List.getLast?_append] at h
    simp at h
    rw [at_last, h]
theorem atI_dp {f : Nat → Nat} {n : Nat} {j : Int} (h0 : 0 ≤ j) (h1 : j.toNat < n) : atI (dpR f n) j = some (.int (f j.toNat : Nat)) := by
  rw [atI_at h0 (by rw [dpR_len]; omega), dp_at h1]
theorem rng_mem {i : Nat} {d : PyData} (m : d ∈ rng 0 i) : ∃ j : Nat, j < i ∧ d = .int (j : Nat) := by
  unfold rng at m
  obtain ⟨j, hj, rfl⟩ := List.mem_map.mp m
  exact ⟨j, List.mem_range.mp hj, by simp⟩
def sel2 (f : Nat → Nat) (k : Option Nat) (d : PyData) : Option PyData := match d with
  | .int j => if parP f j.toNat = k then some d else none
  | _ => none
theorem sel2_rng {f : Nat → Nat} {k : Option Nat} {i : Nat} : (rng 0 i).filterMap (sel2 f k) = nuN (blkP f i k) := by
  unfold rng nuN blkP
  generalize List.range i = L
  induction L with
  | nil => rfl
  | cons j L ih =>
    rw [List.map_cons, List.filterMap_cons, ih, List.filter_cons]
    simp only [sel2, Int.zero_add, Int.toNat_natCast]
    by_cases e : parP f j = k
    · rw [if_pos e, if_pos (by simpa using e)]; simp
    · rw [if_neg e, if_neg (by simpa using e)]
theorem oND_eqv {a b : Option Nat} : PyData.eqv (oND a) (oND b) = decide (a = b) := by
  cases a with
  | none => cases b <;> rfl
  | some a =>
    cases b with
    | none => rfl
    | some b =>
      show decide ((a : Int) = (b : Int)) = _
      by_cases e : a = b
      · subst e; simp
      · rw [decide_eq_false (by omega), decide_eq_false (fun z => e (Option.some.inj z))]
theorem oND_sh (a : Option Nat) : SeqAt.shaped (oND a) = true := by cases a <;> rfl
def allK (n : Nat) : List (Option Nat) := none :: (List.range n).map some
theorem allK_data (n : Nat) : PyData.none :: rng 0 n = (allK n).map oND := by
  unfold allK rng
  rw [List.map_cons, List.map_map]
  congr 1
  refine List.map_congr_left fun j _ => ?_
  simp [oND]
theorem tgt_all {f : Nat → Nat} {n : Nat} (h : CrN f n) : (allK n).filterMap (ofP f n) = grpP f n := (grpP_tgt h n (Nat.le_refl _)).symm
theorem tpL_nil {b : List Nat} : PyData.eqv (PyData.tuple (nuN b)) (.tuple []) = decide (b = []) := by
  cases b <;> simp [nuN, PyData.eqv, PyData.eqvAll]
theorem fmP_snoc {α β : Type} (F : α → Option β) (P : List α) (k : α) : (P ++ [k]).filterMap F = P.filterMap F ++ (F k).toList := by
  rw [List.filterMap_append]
  congr 1
theorem big10 : (1000000 : Nat) < 10 ^ 100 := by decide +kernel
theorem pa_mem {f : Nat → Nat} {n : Nat} {d : PyData} (m : d ∈ paL f n) : d = .none ∨ ∃ k : Nat, k < n ∧ d = .int (k : Nat) := by
  unfold paL at m
  obtain ⟨i, hi, rfl⟩ := List.mem_map.mp m
  cases e : parP f i with
  | none => exact .inl rfl
  | some k => exact .inr ⟨k, Nat.lt_trans (par_lt e) (List.mem_range.mp hi), rfl⟩
theorem pa_rep {f : Nat → Nat} {n : Nat} (hn : n ≤ 1000) : RepP 200000 1 (.tuple (paL f n)) := by
  have h : RepL ((101 + 2) * (paL f n).length) 0 (paL f n) := RepL.all fun d m => by
    have hb := big10
    rcases pa_mem m with rfl | ⟨k, hk, rfl⟩
    · exact rp_n.mono (by decide) (by decide)
    · exact rp_i (by rw [Int.natAbs_natCast]; exact Nat.lt_trans (by omega) hb)
  rw [pa_len] at h
  exact h.tup.mono (by omega) (by decide)
theorem pa_plain {f : Nat → Nat} {n : Nat} : plainD (.tuple (paL f n)) = true := by
  have all : ∀ {ds : List PyData}, (∀ d ∈ ds, plainD d = true) → plainAll ds = true := by
    intro ds
    induction ds with
    | nil => intro _; rfl
    | cons d ds ih => intro h; rw [plainAll, h d List.mem_cons_self, ih fun x m => h x (List.mem_cons_of_mem _ m)]; rfl
  rw [plainD]
  exact all fun d m => by
    rcases pa_mem m with rfl | ⟨k, hk, rfl⟩
    · rfl
    · rfl
theorem perm_map {α β : Type} {g : α → β} {xs ys : List β} (h : xs.Perm ys) : ∀ {bs : List α}, ys = bs.map g → ∃ cs : List α, xs = cs.map g ∧ cs.Perm bs := by
  induction h with
  | nil => intro bs e; cases bs with
    | nil => exact ⟨[], rfl, .nil⟩
    | cons _ _ => cases e
  | cons x p ih =>
    intro bs e
    cases bs with
    | nil => cases e
    | cons b bs =>
      rw [List.map_cons, List.cons.injEq] at e
      obtain ⟨rfl, e⟩ := e
      obtain ⟨cs, rfl, q⟩ := ih e
      exact ⟨b :: cs, rfl, q.cons b⟩
  | swap x y l =>
    intro bs e
    cases bs with
    | nil => cases e
    | cons b bs =>
      cases bs with
      | nil => cases e
      | cons c bs =>
        simp only [List.map_cons, List.cons.injEq] at e
        obtain ⟨rfl, rfl, rfl⟩ := e
        exact ⟨c :: b :: bs, rfl, List.Perm.swap _ _ _⟩
  | trans p1 p2 i1 i2 =>
    intro bs e
    obtain ⟨cs, e1, q1⟩ := i2 e
    obtain ⟨ds, e2, q2⟩ := i1 e1
    exact ⟨ds, e2, q2.trans q1⟩
def BlkOk (n : Nat) (ds : List PyData) : Prop := ∃ bs : List (List Nat), ds = bs.map tpL ∧ bs.flatten.Perm (List.range n) ∧ bs.length ≤ n
theorem addP_flat {k : Option Nat} {i : Nat} : ∀ {G : Grp}, ((addP G k i).map (·.2)).flatten.Perm ((G.map (·.2)).flatten ++ [i])
  | [] => by simp [addP]
  | (k', b) :: r => by
    rw [addP]
    split
    · rw [List.map_cons, List.flatten_cons, List.map_cons, List.flatten_cons, List.append_assoc, List.append_assoc]
      exact (List.perm_append_left_iff b).mpr List.perm_append_comm
    · rw [List.map_cons, List.flatten_cons, List.map_cons, List.flatten_cons, List.append_assoc]
      exact (List.perm_append_left_iff b).mpr addP_flat
theorem grpP_flat {f : Nat → Nat} : ∀ i, ((grpP f i).map (·.2)).flatten.Perm (List.range i)
  | 0 => .nil
  | i + 1 => by
    rw [List.range_succ]
    exact addP_flat.trans ((List.perm_append_right_iff [i]).mpr (grpP_flat i))
theorem blk_ok {f : Nat → Nat} {n : Nat} : BlkOk n (dsort ((grpP f n).map fun p => tpL p.2)) := by
  obtain ⟨cs, e, p⟩ := perm_map (g := tpL) (bs := (grpP f n).map (·.2)) (dsort_perm ((grpP f n).map fun p => tpL p.2)) (by rw [List.map_map]; rfl)
  exact ⟨cs, e, (List.Perm.flatten p).trans (grpP_flat n), by rw [p.length_eq, List.length_map]; exact grpP_len n⟩
theorem blk_rep {n : Nat} {ds : List PyData} (h : BlkOk n ds) (hn : n ≤ 20) : RepP 100000 2 (.list ds) := by
  obtain ⟨bs, rfl, hp, hl⟩ := h
  have hb := big10
  have one : ∀ d ∈ bs.map tpL, RepP 2100 1 d := fun d m => by
    obtain ⟨b, mb, rfl⟩ := List.mem_map.mp m
    have hx : ∀ x ∈ b, x < n := fun x mx => List.mem_range.mp (hp.mem_iff.mp (List.mem_flatten.mpr ⟨b, mb, mx⟩))
    have hbl : b.length ≤ n := by
      have h1 : b.length ≤ bs.flatten.length := (List.sublist_flatten_of_mem mb).length_le
      rw [hp.length_eq, List.length_range] at h1
      exact h1
    rw [tpL_iL]
    have h1 : RepL (103 * (iL b).length) 0 ((iL b).map .int) := rp_is fun x mx => by
      unfold iL at mx
      obtain ⟨y, my, rfl⟩ := List.mem_map.mp mx
      rw [Int.natAbs_natCast]
      have := hx y my
      omega
    have h2 : (iL b).length ≤ 20 := by unfold iL; rw [List.length_map]; omega
    exact h1.tup.mono (by omega) (by decide)
  have := (RepL.all one).lst
  rw [List.length_map] at this
  exact this.mono (by have := Nat.mul_le_mul_left 2102 (show bs.length ≤ 20 by omega); omega) (by decide)
theorem okR_lit : OkR [PyData.int 0, PyData.int 1, PyData.int 2, PyData.int 1] := by
  refine ⟨rfl, fun _ => rfl, fun i hi => ?_⟩
  have h : i + 1 < 4 := hi
  obtain rfl | rfl | rfl : i = 0 ∨ i = 1 ∨ i = 2 := by omega
  · decide
  · decide
  · decide
theorem okR_nil : OkR [] := ⟨rfl, fun h => absurd h (by decide), fun i hi => absurd hi (by simp)⟩
theorem pa_lit : paL (fnD [PyData.int 0, PyData.int 1, PyData.int 2, PyData.int 1]) 4 = [PyData.none, PyData.int 0, PyData.int 1, PyData.int 0] := by rfl
theorem ds_nil : dsort ((grpP (fnD []) 0).map fun p => tpL p.2) = [] := by simp [grpP, dsort]
def tupLs : PyData → PyData
  | .tuple l => .list l
  | d => d
theorem blk_lists {n : Nat} {bl : List PyData} (h : BlkOk n bl) : ∃ bs : List (List Nat), bl.map tupLs = (bs.map nuN).map PyData.list ∧ bs.flatten.Perm (List.range n) ∧ bl.length ≤ n ∧ (∀ d ∈ bl, ∃ b : List Nat, d = tpL b) := by
  obtain ⟨bs, rfl, hp, hl⟩ := h
  refine ⟨bs, by rw [List.map_map, List.map_map]; rfl, hp, by rw [List.length_map]; exact hl, fun d m => ?_⟩
  obtain ⟨b, _, rfl⟩ := List.mem_map.mp m
  exact ⟨b, rfl⟩
theorem nuN_flat (bs : List (List Nat)) : (bs.map nuN).flatten = (iL bs.flatten).map PyData.int := by
  induction bs with
  | nil => rfl
  | cons b bs ih =>
    rw [List.map_cons, List.flatten_cons, List.flatten_cons, ih]
    unfold nuN iL
    simp [List.map_append, List.map_map]
theorem blk_sorted {bs : List (List Nat)} {n : Nat} (hp : bs.flatten.Perm (List.range n)) : (isort (iL bs.flatten)).map PyData.int = rng 0 n := by
  have : iL (List.range n) = isort (iL bs.flatten) := by
    refine isort_eq ?_ ?_
    · exact (hp.map _).symm
    · unfold iL
      refine List.pairwise_map.mpr (List.pairwise_lt_range.imp fun h => ?_)
      omega
  rw [← this]
  unfold iL rng
  rw [List.map_map]
  exact List.map_congr_left fun i _ => by simp
theorem rng_plain {n : Nat} : plainD (.list (rng 0 n)) = true := by
  have all : ∀ {ds : List PyData}, (∀ d ∈ ds, plainD d = true) → plainAll ds = true := by
    intro ds
    induction ds with
    | nil => intro _; rfl
    | cons d ds ih => intro h; rw [plainAll, h d List.mem_cons_self, ih fun x m => h x (List.mem_cons_of_mem _ m)]; rfl
  rw [plainD]
  exact all fun d m => by
    obtain ⟨k, _, rfl⟩ := rng_mem m
    rfl
end Pz
set_option maxRecDepth 100000
set_option maxHeartbeats 0
namespace Lw
open PySem PySem.Spec PyProof.Rows L2 TL Pz
local instance : PenC := penL []
def topS (i : Nat) : Stmt := PySem.Challenge.pw_tabprism_k11_parents_and_blocks.main.body.getD i (.Pass ⟨0, 0, 0, 0⟩)
abbrev s_parents : Stmt := topS 1
abbrev N_parents : List Str := ["levels", "path", "found", "at", "level"]
theorem st_parents {a0 : Sl} : startS N_parents [a0] = [some a0, none, none, none, none] := rfl
theorem sc_parents : FnScope N_parents ["levels"] (defScope s_parents) := ⟨rfl, rfl, rfl, by decide +kernel, rfl, by decide +kernel, by decide +kernel⟩
abbrev s__law_pen : Stmt := topS 4
abbrev N__law_pen : List Str := ["_law_script"]
theorem st__law_pen {a0 : Sl} : startS N__law_pen [a0] = [some a0] := rfl
theorem sc__law_pen : FnScope N__law_pen ["_law_script"] (defScope s__law_pen) := ⟨rfl, rfl, rfl, by decide +kernel, rfl, by decide +kernel, by decide +kernel⟩
abbrev s__law_draw : Stmt := topS 5
abbrev N__law_draw : List Str := ["_law_pen_here", "_law_bound", "_law_at", "_law_cell", "_law_mixed", "_law_digit", "_law_great"]
theorem st__law_draw {a0 a1 : Sl} : startS N__law_draw [a0, a1] = [some a0, some a1, none, none, none, none, none] := rfl
theorem sc__law_draw : FnScope N__law_draw ["_law_pen_here", "_law_bound"] (defScope s__law_draw) := ⟨rfl, rfl, rfl, by decide +kernel, rfl, by decide +kernel, by decide +kernel⟩
abbrev s__law_parents : Stmt := topS 7
abbrev N__law_parents : List Str := ["_law_depths_here", "_law_found", "_law_at", "_law_depth", "_law_some", "_law_other"]
theorem st__law_parents {a0 : Sl} : startS N__law_parents [a0] = [some a0, none, none, none, none, none] := rfl
theorem sc__law_parents : FnScope N__law_parents ["_law_depths_here"] (defScope s__law_parents) := ⟨rfl, rfl, rfl, by decide +kernel, rfl, by decide +kernel, by decide +kernel⟩
abbrev s_blocks : Stmt := topS 2
abbrev N_blocks : List Str := ["levels", "found", "at", "parent", "block"]
theorem st_blocks {a0 : Sl} : startS N_blocks [a0] = [some a0, none, none, none, none] := rfl
theorem sc_blocks : FnScope N_blocks ["levels"] (defScope s_blocks) := ⟨rfl, rfl, rfl, by decide +kernel, rfl, by decide +kernel, by decide +kernel⟩
abbrev s__law_depths : Stmt := topS 6
abbrev N__law_depths : List Str := ["_law_pen_here", "_law_found", "_law_k", "_law_pick", "_law_last"]
theorem st__law_depths {a0 : Sl} : startS N__law_depths [a0] = [some a0, none, none, none, none] := rfl
theorem sc__law_depths : FnScope N__law_depths ["_law_pen_here"] (defScope s__law_depths) := ⟨rfl, rfl, rfl, by decide +kernel, rfl, by decide +kernel, by decide +kernel⟩
abbrev s__law_blocks : Stmt := topS 8
abbrev N__law_blocks : List Str := ["_law_depths_here", "_law_above", "_law_found", "_law_parent", "_law_some", "_law_at"]
theorem st__law_blocks {a0 : Sl} : startS N__law_blocks [a0] = [some a0, none, none, none, none, none] := rfl
theorem sc__law_blocks : FnScope N__law_blocks ["_law_depths_here"] (defScope s__law_blocks) := ⟨rfl, rfl, rfl, by decide +kernel, rfl, by decide +kernel, by decide +kernel⟩
abbrev s_law : Stmt := topS 9
abbrev N_law : List Str := ["_law_script", "_law_pen_here", "_law_turn", "_law_depths_here", "_law_due", "_law_again", "_law_found", "_law_block"]
theorem st_law {a0 : Sl} : startS N_law [a0] = [some a0, none, none, none, none, none, none, none] := rfl
theorem sc_law : FnScope N_law ["_law_script"] (defScope s_law) := ⟨rfl, rfl, rfl, by decide +kernel, rfl, by decide +kernel, by decide +kernel⟩
structure Tx (K : Frag) (mg : Str → Option Value) (f_parents f__law_pen f__law_draw f__law_parents f_blocks f__law_depths f__law_blocks f_law : Addr) (fd_parents fd__law_pen fd__law_draw fd__law_parents fd_blocks fd__law_depths fd__law_blocks fd_law : FuncData) : Prop where
  d_parents : FAt K mg "parents" s_parents ["levels"] f_parents fd_parents
  d__law_pen : FAt K mg "_law_pen" s__law_pen ["_law_script"] f__law_pen fd__law_pen
  d__law_draw : FAt K mg "_law_draw" s__law_draw ["_law_pen_here", "_law_bound"] f__law_draw fd__law_draw
  d__law_parents : FAt K mg "_law_parents" s__law_parents ["_law_depths_here"] f__law_parents fd__law_parents
  d_blocks : FAt K mg "blocks" s_blocks ["levels"] f_blocks fd_blocks
  d__law_depths : FAt K mg "_law_depths" s__law_depths ["_law_pen_here"] f__law_depths fd__law_depths
  d__law_blocks : FAt K mg "_law_blocks" s__law_blocks ["_law_depths_here"] f__law_blocks fd__law_blocks
  d_law : FAt K mg "law" s_law ["_law_script"] f_law fd_law
  b_abs : mg "abs" = none
  b_enumerate : mg "enumerate" = none
  b_int : mg "int" = none
  b_isinstance : mg "isinstance" = none
  b_len : mg "len" = none
  b_list : mg "list" = none
  b_max : mg "max" = none
  b_range : mg "range" = none
  b_repr : mg "repr" = none
  b_sorted : mg "sorted" = none
  b_sum : mg "sum" = none
  b_tuple : mg "tuple" = none
variable {P : Program} {w : World} {K : Frag} {mg : Str → Option Value} {base : Heap} {f_parents f__law_pen f__law_draw f__law_parents f_blocks f__law_depths f__law_blocks f_law : Addr} {fd_parents fd__law_pen fd__law_draw fd__law_parents fd_blocks fd__law_depths fd__law_blocks fd_law : FuncData}
def sp_law : DSp := sp1 fun a cs Q Ed => ∃ ns, a = .f ns ∧ cs = [] ∧ Q (.d (.bool true)) []
theorem sp_ok : ∀ ns : List Int, ns.length ≤ 63 → (∀ z ∈ ns, Builtin.Int.intBits z ≤ 1048576) → sp_law [.f ns] [] (fun s _ => s = .d (.bool true)) fun _ _ _ => False := fun ns _ _ => ⟨ns, rfl, rfl, rfl⟩
def F_parents : FD := fun ss K => match ss with
  | [.d (.tuple ds)] => (OkR ds ∧ ds.length ≤ 1000) ∧ (K (.tuple (paL (fnD ds) ds.length)))
  | _ => False
theorem fo_parents : FOk F_parents 1 := ⟨fun ss k h => by unfold F_parents at h; split at h <;> first | exact ⟨rfl, rfl⟩ | exact h.elim, fun ss k k1 m h => by
  unfold F_parents at h; split at h
  · exact ⟨h.1, by have h2 := h.2; revert h2; clear h; intro h2; first | exact m _ h2 | exact ⟨fun f e => m _ (h2.1 f e), fun f e => m _ (h2.2 f e)⟩ | (intros; apply m; apply h2 <;> assumption) | (obtain h2 := h2; split at h2 <;> split <;> first | exact m _ h2 | simp_all) | simp_all | grind⟩
  · exact h.elim⟩
abbrev sp_parents : DSp := spF F_parents
theorem ho_parents {N : List Str} {m : Nat} {τ : DS} (h : ∀ (ds : List PyData) (Qd : DK), (OkR ds ∧ ds.length ≤ 1000) → ((fun d => Qd (.d d) []) (.tuple (paL (fnD ds) ds.length))) → τ (end0 Qd) (startS N [.d (.tuple ds)]) []) : ∀ (ss : List Sl) (cs : Sto) (Qd : DK) (Ed : DXF), spF F_parents ss cs Qd Ed → ss.length = m → cs.length = 0 ∧ τ (end0 Qd) (startS N ss) cs := hF fun ss Qd w => by
  unfold F_parents at w; split at w
  · exact h _ Qd w.1 w.2
  · exact w.elim
abbrev sp__law_pen := sp_pen
def F__law_draw : FD := fun ss K => match ss with
  | [.d (.int m)] => (0 < m ∧ m < 2 ^ 64) ∧ (∀ r : Int, 0 ≤ r → r < m → K (.int r))
  | _ => False
theorem fo__law_draw : FOk F__law_draw 1 := ⟨fun ss k h => by unfold F__law_draw at h; split at h <;> first | exact ⟨rfl, rfl⟩ | exact h.elim, fun ss k k1 m h => by
  unfold F__law_draw at h; split at h
  · exact ⟨h.1, by have h2 := h.2; revert h2; clear h; intro h2; first | exact m _ h2 | exact ⟨fun f e => m _ (h2.1 f e), fun f e => m _ (h2.2 f e)⟩ | (intros; apply m; apply h2 <;> assumption) | (obtain h2 := h2; split at h2 <;> split <;> first | exact m _ h2 | simp_all) | simp_all | grind⟩
  · exact h.elim⟩
abbrev sp__law_draw : DSp := spQ 1 F__law_draw
theorem ho__law_draw {N : List Str} {m : Nat} {τ : DS} (h : ∀ (m : Int) (c : Ct) (n : Nat) (Qd : DK), Pen n c → n + 1 ≤ 1000000 → (0 < m ∧ m < 2 ^ 64) → (∀ r : Int, 0 ≤ r → r < m → (fun d => ∀ c', Pen (n + 1) c' → Qd (.d d) [c']) (.int r)) → τ (end1 Qd) (startS N [.o 0, .d (.int m)]) [c]) : ∀ (ss : List Sl) (cs : Sto) (Qd : DK) (Ed : DXF), spQ 1 F__law_draw ss cs Qd Ed → ss.length = m → cs.length = 1 ∧ τ (end1 Qd) (startS N ss) cs := hQ fun ss c n Qd p hn w => by
  unfold F__law_draw at w; split at w
  · exact h _ c n Qd p hn w.1 w.2
  · exact w.elim
def F__law_parents : FD := fun ss K => match ss with
  | [.d (.tuple ds)] => (OkR ds ∧ ds.length ≤ 1000) ∧ (K (.tuple (paL (fnD ds) ds.length)))
  | _ => False
theorem fo__law_parents : FOk F__law_parents 1 := ⟨fun ss k h => by unfold F__law_parents at h; split at h <;> first | exact ⟨rfl, rfl⟩ | exact h.elim, fun ss k k1 m h => by
  unfold F__law_parents at h; split at h
  · exact ⟨h.1, by have h2 := h.2; revert h2; clear h; intro h2; first | exact m _ h2 | exact ⟨fun f e => m _ (h2.1 f e), fun f e => m _ (h2.2 f e)⟩ | (intros; apply m; apply h2 <;> assumption) | (obtain h2 := h2; split at h2 <;> split <;> first | exact m _ h2 | simp_all) | simp_all | grind⟩
  · exact h.elim⟩
abbrev sp__law_parents : DSp := spF F__law_parents
theorem ho__law_parents {N : List Str} {m : Nat} {τ : DS} (h : ∀ (ds : List PyData) (Qd : DK), (OkR ds ∧ ds.length ≤ 1000) → ((fun d => Qd (.d d) []) (.tuple (paL (fnD ds) ds.length))) → τ (end0 Qd) (startS N [.d (.tuple ds)]) []) : ∀ (ss : List Sl) (cs : Sto) (Qd : DK) (Ed : DXF), spF F__law_parents ss cs Qd Ed → ss.length = m → cs.length = 0 ∧ τ (end0 Qd) (startS N ss) cs := hF fun ss Qd w => by
  unfold F__law_parents at w; split at w
  · exact h _ Qd w.1 w.2
  · exact w.elim
def F_blocks : FD := fun ss K => match ss with
  | [.d (.tuple ds)] => (OkR ds ∧ ds.length ≤ 1000) ∧ (K (.list (dsort ((grpP (fnD ds) ds.length).map fun p => tpL p.2))))
  | _ => False
theorem fo_blocks : FOk F_blocks 1 := ⟨fun ss k h => by unfold F_blocks at h; split at h <;> first | exact ⟨rfl, rfl⟩ | exact h.elim, fun ss k k1 m h => by
  unfold F_blocks at h; split at h
  · exact ⟨h.1, by have h2 := h.2; revert h2; clear h; intro h2; first | exact m _ h2 | exact ⟨fun f e => m _ (h2.1 f e), fun f e => m _ (h2.2 f e)⟩ | (intros; apply m; apply h2 <;> assumption) | (obtain h2 := h2; split at h2 <;> split <;> first | exact m _ h2 | simp_all) | simp_all | grind⟩
  · exact h.elim⟩
abbrev sp_blocks : DSp := spF F_blocks
theorem ho_blocks {N : List Str} {m : Nat} {τ : DS} (h : ∀ (ds : List PyData) (Qd : DK), (OkR ds ∧ ds.length ≤ 1000) → ((fun d => Qd (.d d) []) (.list (dsort ((grpP (fnD ds) ds.length).map fun p => tpL p.2)))) → τ (end0 Qd) (startS N [.d (.tuple ds)]) []) : ∀ (ss : List Sl) (cs : Sto) (Qd : DK) (Ed : DXF), spF F_blocks ss cs Qd Ed → ss.length = m → cs.length = 0 ∧ τ (end0 Qd) (startS N ss) cs := hF fun ss Qd w => by
  unfold F_blocks at w; split at w
  · exact h _ Qd w.1 w.2
  · exact w.elim
abbrev spO_blocks : DSp := spFO F_blocks
theorem hoO_blocks {N : List Str} {m : Nat} {τ : DS} (h : ∀ (ds : List PyData) (Qd : DK), (OkR ds ∧ ds.length ≤ 1000) → ((fun (d : PyData) => match d with | .list ds => Qd (.o 0) [.lst ds] | _ => False) (.list (dsort ((grpP (fnD ds) ds.length).map fun p => tpL p.2)))) → τ (end0 Qd) (startS N [.d (.tuple ds)]) []) : ∀ (ss : List Sl) (cs : Sto) (Qd : DK) (Ed : DXF), spFO F_blocks ss cs Qd Ed → ss.length = m → cs.length = 0 ∧ τ (end0 Qd) (startS N ss) cs := hFO fun ss Qd w => by
  unfold F_blocks at w; split at w
  · exact h _ Qd w.1 w.2
  · exact w.elim
def F__law_depths : FD := fun ss K => match ss with
  | [] => (True) ∧ (∀ ds : List PyData, OkR ds → ds.length ≤ 20 → K (.tuple ds))
  | _ => False
theorem fo__law_depths : FOk F__law_depths 0 := ⟨fun ss k h => by unfold F__law_depths at h; split at h <;> first | exact ⟨rfl, rfl⟩ | exact h.elim, fun ss k k1 m h => by
  unfold F__law_depths at h; split at h
  · exact ⟨h.1, by have h2 := h.2; revert h2; clear h; intro h2; first | exact m _ h2 | exact ⟨fun f e => m _ (h2.1 f e), fun f e => m _ (h2.2 f e)⟩ | (intros; apply m; apply h2 <;> assumption) | (obtain h2 := h2; split at h2 <;> split <;> first | exact m _ h2 | simp_all) | simp_all | grind⟩
  · exact h.elim⟩
abbrev sp__law_depths : DSp := spQ 50 F__law_depths
theorem ho__law_depths {N : List Str} {m : Nat} {τ : DS} (h : ∀  (c : Ct) (n : Nat) (Qd : DK), Pen n c → n + 50 ≤ 1000000 → (True) → (∀ ds : List PyData, OkR ds → ds.length ≤ 20 → (fun d => ∀ c', Pen (n + 50) c' → Qd (.d d) [c']) (.tuple ds)) → τ (end1 Qd) (startS N [.o 0]) [c]) : ∀ (ss : List Sl) (cs : Sto) (Qd : DK) (Ed : DXF), spQ 50 F__law_depths ss cs Qd Ed → ss.length = m → cs.length = 1 ∧ τ (end1 Qd) (startS N ss) cs := hQ fun ss c n Qd p hn w => by
  unfold F__law_depths at w; split at w
  · exact h  c n Qd p hn w.1 w.2
  · exact w.elim
def F__law_blocks : FD := fun ss K => match ss with
  | [.d (.tuple ds)] => (OkR ds ∧ ds.length ≤ 1000) ∧ (K (.list (dsort ((grpP (fnD ds) ds.length).map fun p => tpL p.2))))
  | _ => False
theorem fo__law_blocks : FOk F__law_blocks 1 := ⟨fun ss k h => by unfold F__law_blocks at h; split at h <;> first | exact ⟨rfl, rfl⟩ | exact h.elim, fun ss k k1 m h => by
  unfold F__law_blocks at h; split at h
  · exact ⟨h.1, by have h2 := h.2; revert h2; clear h; intro h2; first | exact m _ h2 | exact ⟨fun f e => m _ (h2.1 f e), fun f e => m _ (h2.2 f e)⟩ | (intros; apply m; apply h2 <;> assumption) | (obtain h2 := h2; split at h2 <;> split <;> first | exact m _ h2 | simp_all) | simp_all | grind⟩
  · exact h.elim⟩
abbrev sp__law_blocks : DSp := spF F__law_blocks
theorem ho__law_blocks {N : List Str} {m : Nat} {τ : DS} (h : ∀ (ds : List PyData) (Qd : DK), (OkR ds ∧ ds.length ≤ 1000) → ((fun d => Qd (.d d) []) (.list (dsort ((grpP (fnD ds) ds.length).map fun p => tpL p.2)))) → τ (end0 Qd) (startS N [.d (.tuple ds)]) []) : ∀ (ss : List Sl) (cs : Sto) (Qd : DK) (Ed : DXF), spF F__law_blocks ss cs Qd Ed → ss.length = m → cs.length = 0 ∧ τ (end0 Qd) (startS N ss) cs := hF fun ss Qd w => by
  unfold F__law_blocks at w; split at w
  · exact h _ Qd w.1 w.2
  · exact w.elim
def g_kw_blocks_0_levels {α : Type} (us ws : List α) : List α := match us, ws with
  | [], [k0] => [k0]
  | _, _ => []
theorem kw_blocks_0_levels (T : Tx K mg f_parents f__law_pen f__law_draw f__law_parents f_blocks f__law_depths f__law_blocks f_law fd_parents fd__law_pen fd__law_draw fd__law_parents fd_blocks fd__law_depths fd__law_blocks fd_law) : KwD K fd_blocks ["levels"] 0 ["levels"] g_kw_blocks_0_levels where
  kb := {
    to := fun s us ws X l1 l2 => by
      obtain ⟨oc, od, kV, doc, pm, an, cdv, ct, osl, e, lk, hcd⟩ := T.d_blocks.F.ex
      subst e
      exact .of_eq (match us, ws, l1, l2 with | [], [k0], _, _ => rfl)
    rel := fun {vs us zs ws} l1 l2 r1 r2 => by
      match vs, zs, l1, l2 with
      | [], [k0], _, _ =>
        cases r1; obtain _ | ⟨y0, r2_0⟩ := r2; cases r2_0
        exact (.cons y0 .nil) }
  rp := fun {Z vs zs ss us} l1 l2 r1 r2 => by
    match ss, us, l1, l2 with
    | [], [k0], _, _ =>
      cases r1; obtain _ | ⟨y0, r2_0⟩ := r2; cases r2_0
      exact (.cons y0 .nil)
def g_kw_parents_0_levels {α : Type} (us ws : List α) : List α := match us, ws with
  | [], [k0] => [k0]
  | _, _ => []
theorem kw_parents_0_levels (T : Tx K mg f_parents f__law_pen f__law_draw f__law_parents f_blocks f__law_depths f__law_blocks f_law fd_parents fd__law_pen fd__law_draw fd__law_parents fd_blocks fd__law_depths fd__law_blocks fd_law) : KwD K fd_parents ["levels"] 0 ["levels"] g_kw_parents_0_levels where
  kb := {
    to := fun s us ws X l1 l2 => by
      obtain ⟨oc, od, kV, doc, pm, an, cdv, ct, osl, e, lk, hcd⟩ := T.d_parents.F.ex
      subst e
      exact .of_eq (match us, ws, l1, l2 with | [], [k0], _, _ => rfl)
    rel := fun {vs us zs ws} l1 l2 r1 r2 => by
      match vs, zs, l1, l2 with
      | [], [k0], _, _ =>
        cases r1; obtain _ | ⟨y0, r2_0⟩ := r2; cases r2_0
        exact (.cons y0 .nil) }
  rp := fun {Z vs zs ss us} l1 l2 r1 r2 => by
    match ss, us, l1, l2 with
    | [], [k0], _, _ =>
      cases r1; obtain _ | ⟨y0, r2_0⟩ := r2; cases r2_0
      exact (.cons y0 .nil)
local macro_rules | `(tactic| nofun) => `(tactic| try simp -implicitDefEqProofs only [↓Pz.wC_ap, ↓Pz.wVar_ap, ↓Pz.wOp_ap, ↓Pz.wTest_ap, ↓Pz.wNil_ap, ↓Pz.wCons_ap, ↓Pz.wCall_ap, ↓Pz.wCallW_ap, ↓Pz.wApp_ap, ↓Pz.wLst_ap, ↓Pz.wTup_ap, ↓Pz.wLstO_ap, ↓Pz.wNoPart_ap, ↓Pz.wPart_ap, ↓Pz.wSl_ap, ↓Pz.wAnd_ap, ↓Pz.wOr_ap, ↓Pz.wNot_ap, ↓Pz.wAndV_ap, ↓Pz.wOrV_ap, ↓Pz.wNotV_ap, ↓Pz.wIfE_ap, ↓Pz.wTru_ap, ↓Pz.wChain_ap, ↓Pz.wNeg_ap, ↓Pz.wAug_ap, ↓Pz.gNm_ap, ↓Pz.gNl_ap, ↓Pz.gCn_ap, ↓Pz.gTp_ap, ↓Pz.wAsg_ap, ↓Pz.wItE_ap, ↓Pz.wRng1_ap, ↓Pz.wRng2_ap, ↓Pz.wYes_ap, ↓Pz.wLc_ap, ↓Pz.wLcO_ap, ↓Pz.wBM_ap, ↓Pz.wSetIx_ap, ↓Pz.wFrz_ap, ↓Pz.wCallF_ap, ↓Pz.wCallQ_ap, ↓Pz.wCallWF_ap, ↓Pz.wRev_ap, ↓Pz.wRg1_ap, ↓Pz.wRg2_ap, ↓Pz.wListRg_ap, ↓Pz.wRng3_ap, ↓Pz.wEnum_ap, ↓Pz.wZip_ap, ↓Pz.wCallQO_ap, ↓Pz.wDPut_ap, ↓Pz.wPNil_ap, ↓Pz.wPCons_ap, ↓Pz.wDisp_ap, ↓Pz.wDNew_ap, ↓Pz.wDNil_ap, ↓Pz.wEnumX_ap, ↓Pz.wCallE_ap, ↓Pz.wSlO_ap, ↓Pz.wEnumY_ap, ↓Pz.wDGet2_ap, ↓Pz.wMaxDf_ap, ↓Pz.wCallFO_ap, ↓Pz.wRevY_ap, ↓Pz.wFrzX_ap, ↓Pz.wSwp_ap, ↓Pz.wCallX_ap, ↓Pz.wCallXO_ap, ↓Pz.wCallWX_ap, ↓Pz.wRaise1_ap, ↓Pz.wRaise0_ap, ↓Pz.wTry_ap, ↓Pz.wIsE_ap, ↓Pz.wXf_ap, ↓Pz.wDispD_ap, ↓Pz.wSortLen_ap, ↓Pz.wGGet_ap, ↓Pz.wMinDf_ap, ↓Pz.wPar_ap, ↓Pz.wLam_ap, ↓Pz.wAct_ap, ↓Pz.wRep_ap, ↓Pz.wZipM_ap, ↓Pz.wZipN_ap, ↓Pz.wLenSet_ap, ↓Pz.wBor_ap, ↓Pz.gTpL_ap, ↓Pz.wTupRg_ap, ↓Pz.wRevS_ap, ↓Pz.wFmt_ap, ↓Pz.wJoined_ap, ↓Pz.wAsgS_ap, ↓Pz.wPar3_ap, ↓Pz.wDc_ap, ↓Pz.wDcT_ap, ↓Pz.wDGet3_ap, ↓Pz.wListV_ap, ↓Pz.wSumV_ap, ↓Pz.wDIn_ap, ↓Pz.wTGet2_ap, ↓Pz.wTPut_ap, ↓Pz.wDAug_ap, ↓Pz.wFrzL_ap, ↓Pz.wItV_ap, ↓Pz.wItI_ap, ↓Pz.wItK_ap, ↓Pz.wDisp1_ap, ↓Pz.wBorD_ap, ↓Pz.wDNewT_ap, ↓Pz.wCallFD_ap, ↓Pz.wDNew_ap, ↓Pz.wItC_ap, ↓Pz.wCallXE_ap, ↓Pz.wTSetd_ap, ↓Pz.wListRgO_ap, ↓Pz.wTryC_ap, ↓Pz.wMinLen_ap, ↓Pz.wDNewN_ap, ↓Pz.wNSetd_ap, ↓Pz.wFrzN_ap, Pz.setAll, ↓Pz.wClose_ap, ↓Pz.wSetIxO_ap, ↓Pz.oIxS_ap, ↓Pz.wRaise3_ap, ↓Pz.oMulT_ap, Pz.dkX, Pz.unKD_kdD, Option.isSome_some, ↓Pz.wOrX_apS, ↓Pz.wAndX_apS, ↓Pz.orP_str, Pz.orP_some, Pz.orP_none, ↓oTGet, ↓oLtS, ↓oLtT, ↓fListKy, ↓fSortKy, ↓fLenD_o, ↓Pz.aFD, Pz.unD_K, Pz.unD_T, Pz.kyS_t, Pz.keysL_nil, Pz.keysL_ci, Pz.keysL_cs, ↓Pz.dtAt_o, Pz.dtAt_L, ↓Pz.dkAny_o, Pz.dkAny_D, Pz.dkAny_L, ↓Pz.dvAt_o, Pz.dvAt_D, Pz.dvAt_L, Pz.dvAt_T, ↓Pz.dkyS_o, Pz.dkyS_D, Pz.dkyS_L, Pz.dkyS_T, ↓Pz.dinS_o, Pz.dinS_D, Pz.dinS_L, Pz.dinS_T, Pz.lkP_K, Pz.lkP_T, Pz.lkV_K, Pz.lkV_T, Pz.lkV_N, ↓Pz.dnAt_o, Pz.oK_n, Pz.oK_i, ↓ret1_dT, cl_dt, Pz.lkOf_K, Pz.lkOf_T, Pz.xor_f, Pz.xor_t, Pz.hasD_int, Option.bind, Option.bind_some, List.set, ↓seq_mk, ↓wTrim_mk, trimS, List.take_succ_cons, List.take_zero, Nat.reduceLT, ↓nx_mk, ↓set_mk, ↓if_mk, nthS, ↓oEq, ↓oNe, vw, ↓oAdd, ↓oSub, ↓oIadd, ↓oDGet, keyOf_str, keyOf_int, keyS_str, keyS_int, ↓dkAt_o, valE_cells, valE_at, valE_left, putE_at, putE_left, mergeE, mergeD1, kvD1, keyD_s, keyD_i, ret1_dE, cl_dk, ↓fIsi, ↓fDivmod, ↓fStr, Pz.okT_int, Pz.is_int_none, Pz.is_int_bool, Pz.is_int_int, Pz.is_int_str, Pz.is_int_list, Pz.is_int_tuple, Pz.is_int_dict, Pz.okT_bool, Pz.is_bool_none, Pz.is_bool_bool, Pz.is_bool_int, Pz.is_bool_str, Pz.is_bool_list, Pz.is_bool_tuple, Pz.is_bool_dict, Pz.okT_str, Pz.is_str_none, Pz.is_str_bool, Pz.is_str_int, Pz.is_str_str, Pz.is_str_list, Pz.is_str_tuple, Pz.is_str_dict, Pz.okT_tuple, Pz.is_tuple_none, Pz.is_tuple_bool, Pz.is_tuple_int, Pz.is_tuple_str, Pz.is_tuple_list, Pz.is_tuple_tuple, Pz.is_tuple_dict, Pz.okT_list, Pz.is_list_none, Pz.is_list_bool, Pz.is_list_int, Pz.is_list_str, Pz.is_list_list, Pz.is_list_tuple, Pz.is_list_dict, Pz.is_dict_none, Pz.is_dict_bool, Pz.is_dict_int, Pz.is_dict_str, Pz.is_dict_list, Pz.is_dict_tuple, Pz.is_dict_dict, ↓oFdiv, ↓oMod, ↓oMul, ↓oPow, ↓oBool, ↓oII, ↓oIsN, ↓oNotN, ↓oIn, ↓oInX, ↓oInQ, ↓oInT, ↓oIsB, ↓oIsBN, ↓oNotB, noneS, ↓ret_mk, ↓retN_mk, ↓bk_mk, ↓ct_mk, ↓expr_mk, ↓for_mk, truD, ↓oIxE, ↓mPopAt, ↓mIndex, ↓mInsert, ↓fIntS, ↓fStrN, ↓Pz.wJs_cons, ↓Pz.wJs_nil, at0, at1, at2, at3, ix10, ix20, ix21, ix30, ix31, ix32, Pz.len1, Pz.len2, Pz.len3, List.length_nil, List.length_cons, sh_int, sh_bl, sh_non, Int.reduceEq, reduceCtorEq, decide_true, decide_false, sh_nil, eqv_nn, eqv_nilL, List.isEmpty_map, sh_lit, List.flatten_replicate_singleton, List.length_replicate, eqv_int, Nat.zero_le, szL, Nat.reduceLeDiff, Nat.reduceAdd, ↓ret1_d, ↓ret1_o0, ↓ret1_o1, ↓ret1_o2, ↓ret0_o0, ↓ret_d, cl_lst, true_and, and_true, decide_eq_true_eq, ↓oSl, ↓oSlO, ↓fLen, ↓fAbs, ↓fInt, ↓fMaxE, ↓fMinE, ↓fSumE, ↓Pz.fSumL, ↓fAll, ↓fAny, ↓fList, ↓fListO, ↓fListE, ↓fListEO, ↓fTuple, ↓fSortedE, ↓fSortedS, ↓fSortedG, ↓Pz.fSortedGO, ↓fRep, ↓fRepX, ↓fRepZ, ↓fRepW, ↓fBool, vwJ_l, vwJ_t, vwS_l, vwS_t, vwB, dsOf, tyD, ↓mAppend, ↓mExtend, ↓mPop, ↓mReverse, ↓mSplit, ↓mSplitO, ↓mStrip, ↓mLstrip, ↓mRstrip, ↓mStr2, ↓mPart, ↓mJoinE, frzS, frzX, ↓excOf_o, Pz.excOf_d, ↓oDGetX, List.map_cons, List.map_nil, List.getElem?_cons_zero, List.getElem?_cons_succ, List.cons_append, List.nil_append, Bool.false_eq_true, Bool.true_eq_false, ↓reduceIte, p10_3, p10_6, p10_7, p10_9, p10_12, Option.map, ↓aQ, ↓aQO, ↓aFO, borS, atomD, ↓aXO, ↓oAddO, ↓oMulO, Option.some.injEq, exists_eq_left', exists_and_left, datO, datQ_d, ↓mCount, ↓mCountS, Bool.not_true, Bool.not_false, ↓F_parents, ↓F_blocks, ↓F__law_draw, ↓F__law_depths, ↓F__law_parents, ↓F__law_blocks, g_kw_blocks_0_levels, g_kw_parents_0_levels]) | `(tactic| subst_eqs) => `(tactic| simp -implicitDefEqProofs only [↓Pz.wC_ap, ↓Pz.wVar_ap, ↓Pz.wOp_ap, ↓Pz.wTest_ap, ↓Pz.wNil_ap, ↓Pz.wCons_ap, ↓Pz.wCall_ap, ↓Pz.wCallW_ap, ↓Pz.wApp_ap, ↓Pz.wLst_ap, ↓Pz.wTup_ap, ↓Pz.wLstO_ap, ↓Pz.wNoPart_ap, ↓Pz.wPart_ap, ↓Pz.wSl_ap, ↓Pz.wAnd_ap, ↓Pz.wOr_ap, ↓Pz.wNot_ap, ↓Pz.wAndV_ap, ↓Pz.wOrV_ap, ↓Pz.wNotV_ap, ↓Pz.wIfE_ap, ↓Pz.wTru_ap, ↓Pz.wChain_ap, ↓Pz.wNeg_ap, ↓Pz.wAug_ap, ↓Pz.gNm_ap, ↓Pz.gNl_ap, ↓Pz.gCn_ap, ↓Pz.gTp_ap, ↓Pz.wAsg_ap, ↓Pz.wItE_ap, ↓Pz.wRng1_ap, ↓Pz.wRng2_ap, ↓Pz.wYes_ap, ↓Pz.wLc_ap, ↓Pz.wLcO_ap, ↓Pz.wBM_ap, ↓Pz.wSetIx_ap, ↓Pz.wFrz_ap, ↓Pz.wCallF_ap, ↓Pz.wCallQ_ap, ↓Pz.wCallWF_ap, ↓Pz.wRev_ap, ↓Pz.wRg1_ap, ↓Pz.wRg2_ap, ↓Pz.wListRg_ap, ↓Pz.wRng3_ap, ↓Pz.wEnum_ap, ↓Pz.wZip_ap, ↓Pz.wCallQO_ap, ↓Pz.wDPut_ap, ↓Pz.wPNil_ap, ↓Pz.wPCons_ap, ↓Pz.wDisp_ap, ↓Pz.wDNew_ap, ↓Pz.wDNil_ap, ↓Pz.wEnumX_ap, ↓Pz.wCallE_ap, ↓Pz.wSlO_ap, ↓Pz.wEnumY_ap, ↓Pz.wDGet2_ap, ↓Pz.wMaxDf_ap, ↓Pz.wCallFO_ap, ↓Pz.wRevY_ap, ↓Pz.wFrzX_ap, ↓Pz.wSwp_ap, ↓Pz.wCallX_ap, ↓Pz.wCallXO_ap, ↓Pz.wCallWX_ap, ↓Pz.wRaise1_ap, ↓Pz.wRaise0_ap, ↓Pz.wTry_ap, ↓Pz.wIsE_ap, ↓Pz.wXf_ap, ↓Pz.wDispD_ap, ↓Pz.wSortLen_ap, ↓Pz.wGGet_ap, ↓Pz.wMinDf_ap, ↓Pz.wPar_ap, ↓Pz.wLam_ap, ↓Pz.wAct_ap, ↓Pz.wRep_ap, ↓Pz.wZipM_ap, ↓Pz.wZipN_ap, ↓Pz.wLenSet_ap, ↓Pz.wBor_ap, ↓Pz.gTpL_ap, ↓Pz.wTupRg_ap, ↓Pz.wRevS_ap, ↓Pz.wFmt_ap, ↓Pz.wJoined_ap, ↓Pz.wAsgS_ap, ↓Pz.wPar3_ap, ↓Pz.wDc_ap, ↓Pz.wDcT_ap, ↓Pz.wDGet3_ap, ↓Pz.wListV_ap, ↓Pz.wSumV_ap, ↓Pz.wDIn_ap, ↓Pz.wTGet2_ap, ↓Pz.wTPut_ap, ↓Pz.wDAug_ap, ↓Pz.wFrzL_ap, ↓Pz.wItV_ap, ↓Pz.wItI_ap, ↓Pz.wItK_ap, ↓Pz.wDisp1_ap, ↓Pz.wBorD_ap, ↓Pz.wDNewT_ap, ↓Pz.wCallFD_ap, ↓Pz.wDNew_ap, ↓Pz.wItC_ap, ↓Pz.wCallXE_ap, ↓Pz.wTSetd_ap, ↓Pz.wListRgO_ap, ↓Pz.wTryC_ap, ↓Pz.wMinLen_ap, ↓Pz.wDNewN_ap, ↓Pz.wNSetd_ap, ↓Pz.wFrzN_ap, Pz.setAll, ↓Pz.wClose_ap, ↓Pz.wSetIxO_ap, ↓Pz.oIxS_ap, ↓Pz.wRaise3_ap, ↓Pz.oMulT_ap, Pz.dkX, Pz.unKD_kdD, Option.isSome_some, ↓Pz.wOrX_apS, ↓Pz.wAndX_apS, ↓Pz.orP_str, Pz.orP_some, Pz.orP_none, ↓oTGet, ↓oLtS, ↓oLtT, ↓fListKy, ↓fSortKy, ↓fLenD_o, ↓Pz.aFD, Pz.unD_K, Pz.unD_T, Pz.kyS_t, Pz.keysL_nil, Pz.keysL_ci, Pz.keysL_cs, ↓Pz.dtAt_o, Pz.dtAt_L, ↓Pz.dkAny_o, Pz.dkAny_D, Pz.dkAny_L, ↓Pz.dvAt_o, Pz.dvAt_D, Pz.dvAt_L, Pz.dvAt_T, ↓Pz.dkyS_o, Pz.dkyS_D, Pz.dkyS_L, Pz.dkyS_T, ↓Pz.dinS_o, Pz.dinS_D, Pz.dinS_L, Pz.dinS_T, Pz.lkP_K, Pz.lkP_T, Pz.lkV_K, Pz.lkV_T, Pz.lkV_N, ↓Pz.dnAt_o, Pz.oK_n, Pz.oK_i, ↓ret1_dT, cl_dt, Pz.lkOf_K, Pz.lkOf_T, Pz.xor_f, Pz.xor_t, Pz.hasD_int, Option.bind, Option.bind_some, List.set, ↓wTrim_mk, trimS, List.take_succ_cons, List.take_zero, Nat.reduceLT, ↓nx_mk, ↓set_mk, ↓if_mk, nthS, ↓oEq, ↓oNe, vw, ↓oAdd, ↓oSub, ↓oIadd, ↓oDGet, keyOf_str, keyOf_int, keyS_str, keyS_int, ↓dkAt_o, valE_cells, valE_at, valE_left, putE_at, putE_left, mergeE, mergeD1, kvD1, keyD_s, keyD_i, ret1_dE, cl_dk, ↓fIsi, ↓fDivmod, ↓fStr, Pz.okT_int, Pz.is_int_none, Pz.is_int_bool, Pz.is_int_int, Pz.is_int_str, Pz.is_int_list, Pz.is_int_tuple, Pz.is_int_dict, Pz.okT_bool, Pz.is_bool_none, Pz.is_bool_bool, Pz.is_bool_int, Pz.is_bool_str, Pz.is_bool_list, Pz.is_bool_tuple, Pz.is_bool_dict, Pz.okT_str, Pz.is_str_none, Pz.is_str_bool, Pz.is_str_int, Pz.is_str_str, Pz.is_str_list, Pz.is_str_tuple, Pz.is_str_dict, Pz.okT_tuple, Pz.is_tuple_none, Pz.is_tuple_bool, Pz.is_tuple_int, Pz.is_tuple_str, Pz.is_tuple_list, Pz.is_tuple_tuple, Pz.is_tuple_dict, Pz.okT_list, Pz.is_list_none, Pz.is_list_bool, Pz.is_list_int, Pz.is_list_str, Pz.is_list_list, Pz.is_list_tuple, Pz.is_list_dict, Pz.is_dict_none, Pz.is_dict_bool, Pz.is_dict_int, Pz.is_dict_str, Pz.is_dict_list, Pz.is_dict_tuple, Pz.is_dict_dict, ↓oFdiv, ↓oMod, ↓oMul, ↓oPow, ↓oBool, ↓oII, ↓oIsN, ↓oNotN, ↓oIn, ↓oInX, ↓oInQ, ↓oInT, ↓oIsB, ↓oIsBN, ↓oNotB, noneS, ↓ret_mk, ↓retN_mk, ↓bk_mk, ↓ct_mk, ↓expr_mk, ↓for_mk, truD, ↓oIxE, ↓mPopAt, ↓mIndex, ↓mInsert, ↓fIntS, ↓fStrN, ↓Pz.wJs_cons, ↓Pz.wJs_nil, at0, at1, at2, at3, ix10, ix20, ix21, ix30, ix31, ix32, Pz.len1, Pz.len2, Pz.len3, List.length_nil, List.length_cons, sh_int, sh_bl, sh_non, Int.reduceEq, reduceCtorEq, decide_true, decide_false, sh_nil, eqv_nn, eqv_nilL, List.isEmpty_map, sh_lit, List.flatten_replicate_singleton, List.length_replicate, eqv_int, Nat.zero_le, szL, Nat.reduceLeDiff, Nat.reduceAdd, ↓ret1_d, ↓ret1_o0, ↓ret1_o1, ↓ret1_o2, ↓ret0_o0, ↓ret_d, cl_lst, true_and, and_true, decide_eq_true_eq, ↓oSl, ↓oSlO, ↓fLen, ↓fAbs, ↓fInt, ↓fMaxE, ↓fMinE, ↓fSumE, ↓Pz.fSumL, ↓fAll, ↓fAny, ↓fList, ↓fListO, ↓fListE, ↓fListEO, ↓fTuple, ↓fSortedE, ↓fSortedS, ↓fSortedG, ↓Pz.fSortedGO, ↓fRep, ↓fRepX, ↓fRepZ, ↓fRepW, ↓fBool, vwJ_l, vwJ_t, vwS_l, vwS_t, vwB, dsOf, tyD, ↓mAppend, ↓mExtend, ↓mPop, ↓mReverse, ↓mSplit, ↓mSplitO, ↓mStrip, ↓mLstrip, ↓mRstrip, ↓mStr2, ↓mPart, ↓mJoinE, frzS, frzX, ↓excOf_o, Pz.excOf_d, ↓oDGetX, List.map_cons, List.map_nil, List.getElem?_cons_zero, List.getElem?_cons_succ, List.cons_append, List.nil_append, Bool.false_eq_true, Bool.true_eq_false, ↓reduceIte, p10_3, p10_6, p10_7, p10_9, p10_12, Option.map, ↓aQ, ↓aQO, ↓aFO, borS, atomD, ↓aXO, ↓oAddO, ↓oMulO, Option.some.injEq, exists_eq_left', exists_and_left, datO, datQ_d, ↓mCount, ↓mCountS, Bool.not_true, Bool.not_false, ↓F_parents, ↓F_blocks, ↓F__law_draw, ↓F__law_depths, ↓F__law_parents, ↓F__law_blocks, g_kw_blocks_0_levels, g_kw_parents_0_levels]) | `(tactic| subst_vars) => `(tactic| simp -implicitDefEqProofs only [wipeS, ↓Pz.wC_ap, ↓Pz.wVar_ap, ↓Pz.wOp_ap, ↓Pz.wTest_ap, ↓Pz.wNil_ap, ↓Pz.wCons_ap, ↓Pz.wCall_ap, ↓Pz.wCallW_ap, ↓Pz.wApp_ap, ↓Pz.wLst_ap, ↓Pz.wTup_ap, ↓Pz.wLstO_ap, ↓Pz.wNoPart_ap, ↓Pz.wPart_ap, ↓Pz.wSl_ap, ↓Pz.wAnd_ap, ↓Pz.wOr_ap, ↓Pz.wNot_ap, ↓Pz.wAndV_ap, ↓Pz.wOrV_ap, ↓Pz.wNotV_ap, ↓Pz.wIfE_ap, ↓Pz.wTru_ap, ↓Pz.wChain_ap, ↓Pz.wNeg_ap, ↓Pz.wAug_ap, ↓Pz.gNm_ap, ↓Pz.gNl_ap, ↓Pz.gCn_ap, ↓Pz.gTp_ap, ↓Pz.wAsg_ap, ↓Pz.wItE_ap, ↓Pz.wRng1_ap, ↓Pz.wRng2_ap, ↓Pz.wYes_ap, ↓Pz.wLc_ap, ↓Pz.wLcO_ap, ↓Pz.wBM_ap, ↓Pz.wSetIx_ap, ↓Pz.wFrz_ap, ↓Pz.wCallF_ap, ↓Pz.wCallQ_ap, ↓Pz.wCallWF_ap, ↓Pz.wRev_ap, ↓Pz.wRg1_ap, ↓Pz.wRg2_ap, ↓Pz.wListRg_ap, ↓Pz.wRng3_ap, ↓Pz.wEnum_ap, ↓Pz.wZip_ap, ↓Pz.wCallQO_ap, ↓Pz.wDPut_ap, ↓Pz.wPNil_ap, ↓Pz.wPCons_ap, ↓Pz.wDisp_ap, ↓Pz.wDNew_ap, ↓Pz.wDNil_ap, ↓Pz.wEnumX_ap, ↓Pz.wCallE_ap, ↓Pz.wSlO_ap, ↓Pz.wEnumY_ap, ↓Pz.wDGet2_ap, ↓Pz.wMaxDf_ap, ↓Pz.wCallFO_ap, ↓Pz.wRevY_ap, ↓Pz.wFrzX_ap, ↓Pz.wSwp_ap, ↓Pz.wCallX_ap, ↓Pz.wCallXO_ap, ↓Pz.wCallWX_ap, ↓Pz.wRaise1_ap, ↓Pz.wRaise0_ap, ↓Pz.wTry_ap, ↓Pz.wIsE_ap, ↓Pz.wXf_ap, ↓Pz.wDispD_ap, ↓Pz.wSortLen_ap, ↓Pz.wGGet_ap, ↓Pz.wMinDf_ap, ↓Pz.wPar_ap, ↓Pz.wLam_ap, ↓Pz.wAct_ap, ↓Pz.wRep_ap, ↓Pz.wZipM_ap, ↓Pz.wZipN_ap, ↓Pz.wLenSet_ap, ↓Pz.wBor_ap, ↓Pz.gTpL_ap, ↓Pz.wTupRg_ap, ↓Pz.wRevS_ap, ↓Pz.wFmt_ap, ↓Pz.wJoined_ap, ↓Pz.wAsgS_ap, ↓Pz.wPar3_ap, ↓Pz.wDc_ap, ↓Pz.wDcT_ap, ↓Pz.wDGet3_ap, ↓Pz.wListV_ap, ↓Pz.wSumV_ap, ↓Pz.wDIn_ap, ↓Pz.wTGet2_ap, ↓Pz.wTPut_ap, ↓Pz.wDAug_ap, ↓Pz.wFrzL_ap, ↓Pz.wItV_ap, ↓Pz.wItI_ap, ↓Pz.wItK_ap, ↓Pz.wDisp1_ap, ↓Pz.wBorD_ap, ↓Pz.wDNewT_ap, ↓Pz.wCallFD_ap, ↓Pz.wDNew_ap, ↓Pz.wItC_ap, ↓Pz.wCallXE_ap, ↓Pz.wTSetd_ap, ↓Pz.wListRgO_ap, ↓Pz.wTryC_ap, ↓Pz.wMinLen_ap, ↓Pz.wDNewN_ap, ↓Pz.wNSetd_ap, ↓Pz.wFrzN_ap, Pz.setAll, ↓Pz.wClose_ap, ↓Pz.wSetIxO_ap, ↓Pz.oIxS_ap, ↓Pz.wRaise3_ap, ↓Pz.oMulT_ap, Pz.dkX, Pz.unKD_kdD, Option.isSome_some, ↓Pz.wOrX_apS, ↓Pz.wAndX_apS, ↓Pz.orP_str, Pz.orP_some, Pz.orP_none, ↓oTGet, ↓oLtS, ↓oLtT, ↓fListKy, ↓fSortKy, ↓fLenD_o, ↓Pz.aFD, Pz.unD_K, Pz.unD_T, Pz.kyS_t, Pz.keysL_nil, Pz.keysL_ci, Pz.keysL_cs, ↓Pz.dtAt_o, Pz.dtAt_L, ↓Pz.dkAny_o, Pz.dkAny_D, Pz.dkAny_L, ↓Pz.dvAt_o, Pz.dvAt_D, Pz.dvAt_L, Pz.dvAt_T, ↓Pz.dkyS_o, Pz.dkyS_D, Pz.dkyS_L, Pz.dkyS_T, ↓Pz.dinS_o, Pz.dinS_D, Pz.dinS_L, Pz.dinS_T, Pz.lkP_K, Pz.lkP_T, Pz.lkV_K, Pz.lkV_T, Pz.lkV_N, ↓Pz.dnAt_o, Pz.oK_n, Pz.oK_i, ↓ret1_dT, cl_dt, Pz.lkOf_K, Pz.lkOf_T, Pz.xor_f, Pz.xor_t, Pz.hasD_int, Option.bind, Option.bind_some, List.set, ↓seq_mk, ↓wTrim_mk, trimS, List.take_succ_cons, List.take_zero, Nat.reduceLT, ↓nx_mk, ↓set_mk, ↓if_mk, nthS, ↓oEq, ↓oNe, vw, ↓oAdd, ↓oSub, ↓oIadd, ↓oDGet, keyOf_str, keyOf_int, keyS_str, keyS_int, ↓dkAt_o, valE_cells, valE_at, valE_left, putE_at, putE_left, mergeE, mergeD1, kvD1, keyD_s, keyD_i, ret1_dE, cl_dk, ↓fIsi, ↓fDivmod, ↓fStr, Pz.okT_int, Pz.is_int_none, Pz.is_int_bool, Pz.is_int_int, Pz.is_int_str, Pz.is_int_list, Pz.is_int_tuple, Pz.is_int_dict, Pz.okT_bool, Pz.is_bool_none, Pz.is_bool_bool, Pz.is_bool_int, Pz.is_bool_str, Pz.is_bool_list, Pz.is_bool_tuple, Pz.is_bool_dict, Pz.okT_str, Pz.is_str_none, Pz.is_str_bool, Pz.is_str_int, Pz.is_str_str, Pz.is_str_list, Pz.is_str_tuple, Pz.is_str_dict, Pz.okT_tuple, Pz.is_tuple_none, Pz.is_tuple_bool, Pz.is_tuple_int, Pz.is_tuple_str, Pz.is_tuple_list, Pz.is_tuple_tuple, Pz.is_tuple_dict, Pz.okT_list, Pz.is_list_none, Pz.is_list_bool, Pz.is_list_int, Pz.is_list_str, Pz.is_list_list, Pz.is_list_tuple, Pz.is_list_dict, Pz.is_dict_none, Pz.is_dict_bool, Pz.is_dict_int, Pz.is_dict_str, Pz.is_dict_list, Pz.is_dict_tuple, Pz.is_dict_dict, ↓oFdiv, ↓oMod, ↓oMul, ↓oPow, ↓oBool, ↓oII, ↓oIsN, ↓oNotN, ↓oIn, ↓oInX, ↓oInQ, ↓oInT, ↓oIsB, ↓oIsBN, ↓oNotB, noneS, ↓ret_mk, ↓retN_mk, ↓bk_mk, ↓ct_mk, ↓expr_mk, ↓for_mk, truD, ↓oIxE, ↓mPopAt, ↓mIndex, ↓mInsert, ↓fIntS, ↓fStrN, ↓Pz.wJs_cons, ↓Pz.wJs_nil, at0, at1, at2, at3, ix10, ix20, ix21, ix30, ix31, ix32, Pz.len1, Pz.len2, Pz.len3, List.length_nil, List.length_cons, sh_int, sh_bl, sh_non, Int.reduceEq, reduceCtorEq, decide_true, decide_false, sh_nil, eqv_nn, eqv_nilL, List.isEmpty_map, sh_lit, List.flatten_replicate_singleton, List.length_replicate, eqv_int, Nat.zero_le, szL, Nat.reduceLeDiff, Nat.reduceAdd, ↓ret1_d, ↓ret1_o0, ↓ret1_o1, ↓ret1_o2, ↓ret0_o0, ↓ret_d, cl_lst, true_and, and_true, decide_eq_true_eq, ↓oSl, ↓oSlO, ↓fLen, ↓fAbs, ↓fInt, ↓fMaxE, ↓fMinE, ↓fSumE, ↓Pz.fSumL, ↓fAll, ↓fAny, ↓fList, ↓fListO, ↓fListE, ↓fListEO, ↓fTuple, ↓fSortedE, ↓fSortedS, ↓fSortedG, ↓Pz.fSortedGO, ↓fRep, ↓fRepX, ↓fRepZ, ↓fRepW, ↓fBool, vwJ_l, vwJ_t, vwS_l, vwS_t, vwB, dsOf, tyD, ↓mAppend, ↓mExtend, ↓mPop, ↓mReverse, ↓mSplit, ↓mSplitO, ↓mStrip, ↓mLstrip, ↓mRstrip, ↓mStr2, ↓mPart, ↓mJoinE, frzS, frzX, ↓excOf_o, Pz.excOf_d, ↓oDGetX, List.map_cons, List.map_nil, List.getElem?_cons_zero, List.getElem?_cons_succ, List.cons_append, List.nil_append, Bool.false_eq_true, Bool.true_eq_false, ↓reduceIte, p10_3, p10_6, p10_7, p10_9, p10_12, Option.map, ↓aQ, ↓aQO, ↓aFO, borS, atomD, ↓aXO, ↓oAddO, ↓oMulO, Option.some.injEq, exists_eq_left', exists_and_left, datO, datQ_d, ↓mCount, ↓mCountS, Bool.not_true, Bool.not_false, ↓F_parents, ↓F_blocks, ↓F__law_draw, ↓F__law_depths, ↓F__law_parents, ↓F__law_blocks, g_kw_blocks_0_levels, g_kw_parents_0_levels])
theorem ok_parents (T : Tx K mg f_parents f__law_pen f__law_draw f__law_parents f_blocks f__law_depths f__law_blocks f_law fd_parents fd__law_pen fd__law_draw fd__law_parents fd_blocks fd__law_depths fd__law_blocks fd_law) : FnD P w K mg base CX0 1 f_parents fd_parents ["levels"] sp_parents := by
  refine FnD.of0 T.d_parents.F sc_parents 0 _ (fun cdv A outer s H E Z0 hA hr hz => (dss_cons (ds_set 1 sc_parents.nd (de_lst da_nil))
      (dss_cons (ds_set 2 sc_parents.nd (de_lstO da_nil))
      (dss_cons (ds_for PassesOwn.never rfl (di_enumY rfl T.b_enumerate (da_cons (de_v 0 (pv 0)) da_nil)) (dg_tup (n := 2) rfl (dgs_cons (dg_name 3 sc_parents.nd) (dgs_cons (dg_name 4 sc_parents.nd) dgs_nil))) (dss_cons (ds_set 1 sc_parents.nd (de_op d2_add op_addR (de_slice (de_v 1 (pv 1)) dpo_none (dpo_some (de_v 4 (pv 4)))) (de_lst (da_cons (de_v 3 (pv 3)) da_nil))))
      (dss_one (ds_expr (de_bm md_append PySem.F.plainAttrs_list PySem.F.slot_list_append PySem.F.type_list_append mt_append (de_v 2 (pv 2)) (da_cons (de_if (dt_cmp d2_bool op_gt (de_v 4 (pv 4)) de_int (nomark _)) (de_ixE (de_v 1 (pv 1)) (de_op d2_sub op_sub (de_v 4 (pv 4)) de_int)) de_non) da_nil))))))
      (dss_one (ds_ret (de_callTy cd_tuple call_tuple_of rfl T.b_tuple (by decide +kernel) (da_cons (de_v 2 (pv 2)) da_nil)))))))) ?_
  refine ho_parents fun ds Qd ⟨⟨he, hc⟩, hn⟩ q => ?_
  try dsimp only at *
  rw [st_parents]
  generalize hf : fnD ds = f at *
  generalize hm : ds.length = n at *
  subst he
  clear hf hm
  rw [seq_mk]
  subst_eqs
  rw [seq_mk]
  subst_eqs
  nofun
  refine forL_ix (fun (ds : List PyData) (sl : Sls) (st : Sto) => ∃ (i : Nat) (s_3 s_4 : Option Sl), sl = [some (.d (.tuple (dpR f n))), some (.d (.list (nuN (pthP f i)))), some (.o 0), s_3, s_4] ∧ st = [.lst (paL f i)] ∧ i ≤ n ∧ ds = enumD i ((List.range' i (n - i)).map fun j => .int (f j : Nat))) ?_ ?_ _ _ _ ⟨0, _, _, rfl, rfl, Nat.zero_le _, by rw [← rg_zero]; rfl⟩
  · rintro sl st ⟨i, s_3, s_4, rfl, rfl, hi, hd⟩
    have hin : i = n := by
      rcases Nat.lt_or_ge i n with h | h
      · rw [rg_from _ n i h] at hd
        cases hd
      · omega
    subst hin
    nofun
    exact q
  · rintro R B d ds sl st ih ⟨i, s_3, s_4, rfl, rfl, hi, hd⟩
    have hin : i < n := by
      rcases Nat.lt_or_ge i n with h | h
      · exact h
      · rw [show n - i = 0 by omega] at hd
        cases hd
    rw [rg_from _ n i hin, enumD, List.cons.injEq] at hd
    obtain ⟨rfl, hd⟩ := hd
    nofun
    have hl := len_le hc i hi
    have hl2 := lvl_le hc hin
    refine ⟨by rw [cut_hi (Int.natCast_nonneg _)]; unfold nuN; rw [List.length_map, pth_len]; omega, ?_⟩
    rw [pth_data hc hin]
    by_cases h0 : f i = 0
    · rw [if_neg (by omega)]
      refine ⟨by rw [pa_len]; omega, ?_⟩
      have e : PyData.none = oND (parP f i) := by rw [parP, if_pos h0]; rfl
      rw [e, pa_snoc]
      exact ih _ _ ⟨i + 1, _, _, rfl, rfl, hin, hd⟩
    · obtain ⟨k, e1, e2⟩ := pth_par hc hin (by omega)
      rw [if_pos (by omega)]
      refine ⟨.int (k : Nat), ?_, by rw [pa_len]; omega, ?_⟩
      · rw [atI_at (by omega) (by unfold nuN; rw [List.length_map, pth_len]; show (f i : Int) - 1 < ((f i + 1 : Nat) : Int); omega), show ((f i : Int) - 1).toNat = f i - 1 by omega]
        unfold nuN
        rw [List.getElem?_map, e2]; rfl
      · have e : PyData.int (k : Nat) = oND (parP f i) := by rw [e1]; rfl
        rw [e, pa_snoc]
        exact ih _ _ ⟨i + 1, _, _, rfl, rfl, hin, hd⟩
theorem ok__law_pen (T : Tx K mg f_parents f__law_pen f__law_draw f__law_parents f_blocks f__law_depths f__law_blocks f_law fd_parents fd__law_pen fd__law_draw fd__law_parents fd_blocks fd__law_depths fd__law_blocks fd_law) : FnD P w K mg base CX0 1 f__law_pen fd__law_pen ["_law_script"] sp__law_pen := by
  refine FnD.of0 T.d__law_pen.F sc__law_pen 0 _ (fun cdv A outer s H E Z0 hA hr hz => (dss_one (ds_ret (de_lstO (da_cons (de_callTy cd_listE (call_listE rfl) rfl T.b_list (by decide +kernel) (da_cons (de_slice (de_v 0 (pv 0)) dpo_none (dpo_some de_int)) da_nil)) (da_cons de_int (da_cons de_int da_nil))))))) ?_
  refine e1 fun a cs Qd Ed => ?_
  rintro ⟨ns, rfl, rfl, q⟩
  refine ⟨rfl, ?_⟩
  simp only [st__law_pen, ↓Pz.wC_ap, ↓Pz.wVar_ap, ↓Pz.wOp_ap, ↓Pz.wTest_ap, ↓Pz.wNil_ap, ↓Pz.wCons_ap, ↓Pz.wCall_ap, ↓Pz.wCallW_ap, ↓Pz.wApp_ap, ↓Pz.wLst_ap, ↓Pz.wTup_ap, ↓Pz.wLstO_ap, ↓Pz.wNoPart_ap, ↓Pz.wPart_ap, ↓Pz.wSl_ap, ↓Pz.wAnd_ap, ↓Pz.wOr_ap, ↓Pz.wNot_ap, ↓Pz.wAndV_ap, ↓Pz.wOrV_ap, ↓Pz.wNotV_ap, ↓Pz.wIfE_ap, ↓Pz.wTru_ap, ↓Pz.wChain_ap, ↓Pz.wNeg_ap, ↓Pz.wAug_ap, ↓Pz.gNm_ap, ↓Pz.gNl_ap, ↓Pz.gCn_ap, ↓Pz.gTp_ap, ↓Pz.wAsg_ap, ↓Pz.wItE_ap, ↓Pz.wRng1_ap, ↓Pz.wRng2_ap, ↓Pz.wYes_ap, ↓Pz.wLc_ap, ↓Pz.wLcO_ap, ↓Pz.wBM_ap, ↓Pz.wSetIx_ap, ↓Pz.wFrz_ap, ↓Pz.wCallF_ap, ↓Pz.wCallQ_ap, ↓Pz.wCallWF_ap, ↓Pz.wRev_ap, ↓Pz.wRg1_ap, ↓Pz.wRg2_ap, ↓Pz.wListRg_ap, ↓Pz.wRng3_ap, ↓Pz.wEnum_ap, ↓Pz.wZip_ap, ↓Pz.wCallQO_ap, ↓Pz.wDPut_ap, ↓Pz.wPNil_ap, ↓Pz.wPCons_ap, ↓Pz.wDisp_ap, ↓Pz.wDNew_ap, ↓Pz.wDNil_ap, ↓Pz.wEnumX_ap, ↓Pz.wCallE_ap, ↓Pz.wSlO_ap, ↓Pz.wEnumY_ap, ↓Pz.wDGet2_ap, ↓Pz.wMaxDf_ap, ↓Pz.wCallFO_ap, ↓Pz.wRevY_ap, ↓Pz.wFrzX_ap, ↓Pz.wSwp_ap, ↓Pz.wCallX_ap, ↓Pz.wCallXO_ap, ↓Pz.wCallWX_ap, ↓Pz.wRaise1_ap, ↓Pz.wRaise0_ap, ↓Pz.wTry_ap, ↓Pz.wIsE_ap, ↓Pz.wXf_ap, ↓Pz.wDispD_ap, ↓Pz.wSortLen_ap, ↓Pz.wGGet_ap, ↓Pz.wMinDf_ap, ↓Pz.wPar_ap, ↓Pz.wLam_ap, ↓Pz.wAct_ap, ↓Pz.wRep_ap, ↓Pz.wZipM_ap, ↓Pz.wZipN_ap, ↓Pz.wLenSet_ap, ↓Pz.wBor_ap, ↓Pz.gTpL_ap, ↓Pz.wTupRg_ap, ↓Pz.wRevS_ap, ↓Pz.wFmt_ap, ↓Pz.wJoined_ap, ↓Pz.wAsgS_ap, ↓Pz.wPar3_ap, ↓Pz.wDc_ap, ↓Pz.wDcT_ap, ↓Pz.wDGet3_ap, ↓Pz.wListV_ap, ↓Pz.wSumV_ap, ↓Pz.wDIn_ap, ↓Pz.wTGet2_ap, ↓Pz.wTPut_ap, ↓Pz.wDAug_ap, ↓Pz.wFrzL_ap, ↓Pz.wItV_ap, ↓Pz.wItI_ap, ↓Pz.wItK_ap, ↓Pz.wDisp1_ap, ↓Pz.wBorD_ap, ↓Pz.wDNewT_ap, ↓Pz.wCallFD_ap, ↓Pz.wDNew_ap, ↓Pz.wItC_ap, ↓Pz.wCallXE_ap, ↓Pz.wTSetd_ap, ↓Pz.wListRgO_ap, ↓Pz.wTryC_ap, ↓Pz.wMinLen_ap, ↓Pz.wDNewN_ap, ↓Pz.wNSetd_ap, ↓Pz.wFrzN_ap, Pz.setAll, ↓Pz.wClose_ap, ↓Pz.wSetIxO_ap, ↓Pz.oIxS_ap, ↓Pz.wRaise3_ap, ↓Pz.oMulT_ap, Pz.dkX, Pz.unKD_kdD, Option.isSome_some, ↓Pz.wOrX_apS, ↓Pz.wAndX_apS, ↓Pz.orP_str, Pz.orP_some, Pz.orP_none, ↓oTGet, ↓oLtS, ↓oLtT, ↓fListKy, ↓fSortKy, ↓fLenD_o, ↓Pz.aFD, Pz.unD_K, Pz.unD_T, Pz.kyS_t, Pz.keysL_nil, Pz.keysL_ci, Pz.keysL_cs, ↓Pz.dtAt_o, Pz.dtAt_L, ↓Pz.dkAny_o, Pz.dkAny_D, Pz.dkAny_L, ↓Pz.dvAt_o, Pz.dvAt_D, Pz.dvAt_L, Pz.dvAt_T, ↓Pz.dkyS_o, Pz.dkyS_D, Pz.dkyS_L, Pz.dkyS_T, ↓Pz.dinS_o, Pz.dinS_D, Pz.dinS_L, Pz.dinS_T, Pz.lkP_K, Pz.lkP_T, Pz.lkV_K, Pz.lkV_T, Pz.lkV_N, ↓Pz.dnAt_o, Pz.oK_n, Pz.oK_i, ↓ret1_dT, cl_dt, Pz.lkOf_K, Pz.lkOf_T, Pz.xor_f, Pz.xor_t, Pz.hasD_int, Option.bind, Option.bind_some, List.set, ↓seq_mk, ↓wTrim_mk, trimS, List.take_succ_cons, List.take_zero, Nat.reduceLT, ↓nx_mk, ↓set_mk, ↓if_mk, nthS, ↓oEq, ↓oNe, vw, ↓oAdd, ↓oSub, ↓oIadd, ↓oDGet, keyOf_str, keyOf_int, keyS_str, keyS_int, ↓dkAt_o, valE_cells, valE_at, valE_left, putE_at, putE_left, mergeE, mergeD1, kvD1, keyD_s, keyD_i, ret1_dE, cl_dk, ↓fIsi, ↓fDivmod, ↓fStr, Pz.okT_int, Pz.is_int_none, Pz.is_int_bool, Pz.is_int_int, Pz.is_int_str, Pz.is_int_list, Pz.is_int_tuple, Pz.is_int_dict, Pz.okT_bool, Pz.is_bool_none, Pz.is_bool_bool, Pz.is_bool_int, Pz.is_bool_str, Pz.is_bool_list, Pz.is_bool_tuple, Pz.is_bool_dict, Pz.okT_str, Pz.is_str_none, Pz.is_str_bool, Pz.is_str_int, Pz.is_str_str, Pz.is_str_list, Pz.is_str_tuple, Pz.is_str_dict, Pz.okT_tuple, Pz.is_tuple_none, Pz.is_tuple_bool, Pz.is_tuple_int, Pz.is_tuple_str, Pz.is_tuple_list, Pz.is_tuple_tuple, Pz.is_tuple_dict, Pz.okT_list, Pz.is_list_none, Pz.is_list_bool, Pz.is_list_int, Pz.is_list_str, Pz.is_list_list, Pz.is_list_tuple, Pz.is_list_dict, Pz.is_dict_none, Pz.is_dict_bool, Pz.is_dict_int, Pz.is_dict_str, Pz.is_dict_list, Pz.is_dict_tuple, Pz.is_dict_dict, ↓oFdiv, ↓oMod, ↓oMul, ↓oPow, ↓oBool, ↓oII, ↓oIsN, ↓oNotN, ↓oIn, ↓oInX, ↓oInQ, ↓oInT, ↓oIsB, ↓oIsBN, ↓oNotB, noneS, ↓ret_mk, ↓retN_mk, ↓bk_mk, ↓ct_mk, ↓expr_mk, ↓for_mk, truD, ↓oIxE, ↓mPopAt, ↓mIndex, ↓mInsert, ↓fIntS, ↓fStrN, ↓Pz.wJs_cons, ↓Pz.wJs_nil, at0, at1, at2, at3, ix10, ix20, ix21, ix30, ix31, ix32, Pz.len1, Pz.len2, Pz.len3, List.length_nil, List.length_cons, sh_int, sh_bl, sh_non, Int.reduceEq, reduceCtorEq, decide_true, decide_false, sh_nil, eqv_nn, eqv_nilL, List.isEmpty_map, sh_lit, List.flatten_replicate_singleton, List.length_replicate, eqv_int, Nat.zero_le, szL, Nat.reduceLeDiff, Nat.reduceAdd, ↓ret1_d, ↓ret1_o0, ↓ret1_o1, ↓ret1_o2, ↓ret0_o0, ↓ret_d, cl_lst, true_and, and_true, decide_eq_true_eq, ↓oSl, ↓oSlO, ↓fLen, ↓fAbs, ↓fInt, ↓fMaxE, ↓fMinE, ↓fSumE, ↓Pz.fSumL, ↓fAll, ↓fAny, ↓fList, ↓fListO, ↓fListE, ↓fListEO, ↓fTuple, ↓fSortedE, ↓fSortedS, ↓fSortedG, ↓Pz.fSortedGO, ↓fRep, ↓fRepX, ↓fRepZ, ↓fRepW, ↓fBool, vwJ_l, vwJ_t, vwS_l, vwS_t, vwB, dsOf, tyD, ↓mAppend, ↓mExtend, ↓mPop, ↓mReverse, ↓mSplit, ↓mSplitO, ↓mStrip, ↓mLstrip, ↓mRstrip, ↓mStr2, ↓mPart, ↓mJoinE, frzS, frzX, ↓excOf_o, Pz.excOf_d, ↓oDGetX, List.map_cons, List.map_nil, List.getElem?_cons_zero, List.getElem?_cons_succ, List.cons_append, List.nil_append, Bool.false_eq_true, Bool.true_eq_false, ↓reduceIte, p10_3, p10_6, p10_7, p10_9, p10_12, Option.map, ↓aQ, ↓aQO, ↓aFO, borS, atomD, ↓aXO, ↓oAddO, ↓oMulO, Option.some.injEq, exists_eq_left', exists_and_left, datO, datQ_d, ↓mCount, ↓mCountS, Bool.not_true, Bool.not_false, ↓F_parents, ↓F_blocks, ↓F__law_draw, ↓F__law_depths, ↓F__law_parents, ↓F__law_blocks, g_kw_blocks_0_levels, g_kw_parents_0_levels]
  refine q _ ⟨_, 0, 0, rfl, ?_, by omega, by omega, by omega⟩
  rw [show Pz.cutD ns none (some 63) = (ns.drop 0).take (HT.sIx ns.length ns.length (some 63) - 0) from rfl, List.length_take]
  have : HT.sIx ns.length ns.length (some 63) ≤ 63 := by
    simp [HT.sIx]
    omega
  omega
theorem ok__law_draw (T : Tx K mg f_parents f__law_pen f__law_draw f__law_parents f_blocks f__law_depths f__law_blocks f_law fd_parents fd__law_pen fd__law_draw fd__law_parents fd_blocks fd__law_depths fd__law_blocks fd_law) : FnD P w K mg base CX0 1 f__law_draw fd__law_draw ["_law_pen_here", "_law_bound"] sp__law_draw := by
  refine FnD.of0 T.d__law_draw.F sc__law_draw 1 _ (fun cdv A outer s H E Z0 hA hr hz => (dss_cons (ds_if (dt_cmp d2_bool op_gt (de_ixE (de_v 0 (pv 0)) de_int) de_int (nomark _)) (dss_cons (ds_set 5 sc__law_draw.nd (de_op d2_mod op_mod (de_ixE (de_v 0 (pv 0)) de_int) (de_v 1 (pv 1))))
      (dss_cons (ds_setIx (de_op d2_fdiv op_fdivW (de_ixE (de_v 0 (pv 0)) de_int) (de_v 1 (pv 1))) (de_v 0 (pv 0)) de_int)
      (dss_one (ds_ret (de_v 5 (pv 5)))))) dss_nil)
      (dss_cons (ds_set 2 sc__law_draw.nd (de_ixE (de_v 0 (pv 0)) de_int))
      (dss_cons (ds_setIx (de_op d2_add op_addR (de_v 2 (pv 2)) de_int) (de_v 0 (pv 0)) de_int)
      (dss_cons (ds_set 3 sc__law_draw.nd (de_op d2_add op_addR (de_op d2_mul op_mulR de_int (de_v 2 (pv 2))) de_int))
      (dss_cons (ds_if (dt_cmp d2_ne (op_neD hr.units) (de_ixE (de_v 0 (pv 0)) de_int) (de_lst da_nil) (nomark _)) (dss_one (ds_set 3 sc__law_draw.nd (de_ixE (de_ixE (de_v 0 (pv 0)) de_int) (de_op d2_mod op_mod (de_v 2 (pv 2)) (de_callB cd_len call_len rfl T.b_len (by decide +kernel) (da_cons (de_ixE (de_v 0 (pv 0)) de_int) da_nil)))))) dss_nil)
      (dss_cons (ds_if (DWs.dt (dw_and (dt_cmp d2_bool op_lt (de_v 2 (pv 2)) (de_callB cd_len call_len rfl T.b_len (by decide +kernel) (da_cons (de_ixE (de_v 0 (pv 0)) de_int) da_nil)) (nomark _)) (dw_and1 (dt_cmp d2_bool op_ge (de_callB cd_abs call_abs rfl T.b_abs (by decide +kernel) (da_cons (de_v 3 (pv 3)) da_nil)) (de_op d2_pow op_pow de_int de_int) (nomark _))))) (dss_cons (ds_set 6 sc__law_draw.nd (de_op d2_add op_addR (de_op d2_mul op_mulR de_int (de_callB cd_abs call_abs rfl T.b_abs (by decide +kernel) (da_cons (de_v 3 (pv 3)) da_nil))) (de_callTy cd_int call_int1 rfl T.b_int (by decide +kernel) (da_cons (de_cmp d2_bool op_lt (de_v 3 (pv 3)) de_int (nomark _)) da_nil))))
      (dss_cons (ds_setIx (de_op d2_fdiv op_fdivW (de_v 6 (pv 6)) (de_v 1 (pv 1))) (de_v 0 (pv 0)) de_int)
      (dss_one (ds_ret (de_op d2_mod op_mod (de_v 6 (pv 6)) (de_v 1 (pv 1))))))) dss_nil)
      (dss_cons (ds_set 4 sc__law_draw.nd (de_op d2_mod op_mod (de_op d2_pow op_pow (de_op d2_add op_addR (de_op d2_add op_addR (de_op d2_mod op_mod (de_v 3 (pv 3)) de_int) (de_op d2_mul op_mulR de_int (de_v 2 (pv 2)))) de_int) de_int) de_int))
      (dss_cons (ds_set 4 sc__law_draw.nd (de_op d2_mod op_mod (de_op d2_pow op_pow (de_op d2_add op_addR (de_op d2_mul op_mulR (de_v 4 (pv 4)) (de_op d2_add op_addR (de_op d2_mul op_mulR de_int (de_v 2 (pv 2))) de_int)) de_int) de_int) de_int))
      (dss_one (ds_ret (de_op d2_mod op_mod (de_op d2_fdiv op_fdivW (de_v 4 (pv 4)) de_int) (de_v 1 (pv 1)))))))))))))) ?_
  refine ho__law_draw fun m c n Qd p hn ⟨h6, h7⟩ q => ?_
  obtain ⟨ds, i, l, rfl, h1, h2, h3, h4⟩ := p
  have i0 : i ≤ 1000000 := by omega
  have q' : ∀ j l', 0 ≤ l' → (j = i ∨ j = i + 1) → ∀ r, Qd (.d (.int (r % m))) [.lst [.list (ds.map .int), .int j, .int l']] := fun j l' z e r => q _ (Int.emod_nonneg _ (by omega)) (Int.emod_lt_of_pos _ h6) _ ⟨ds, j, l', rfl, h1, by omega, by omega, z⟩
  have q2 : ∀ x : Int, (SmallI 50021 ∨ SmallI i) ∧ CPow (x % 2147483549 + 50021 * i + 43) 3 ∧ (0 : Int) < 2147483579 ∧ (SmallI 2 ∨ SmallI i) ∧ (SmallI ((x % 2147483549 + 50021 * i + 43) ^ Int.toNat 3 % 2147483579) ∨ SmallI (2 * i + 7)) ∧
      CPow ((x % 2147483549 + 50021 * i + 43) ^ Int.toNat 3 % 2147483579 * (2 * i + 7) + 80039) 3 ∧ (0 : Int) < 2147483629 ∧ CDivW (((x % 2147483549 + 50021 * i + 43) ^ Int.toNat 3 % 2147483579 * (2 * i + 7) + 80039) ^ Int.toNat 3 % 2147483629) 16 ∧ 0 < m ∧
      Qd (.d (.int (((x % 2147483549 + 50021 * i + 43) ^ Int.toNat 3 % 2147483579 * (2 * i + 7) + 80039) ^ Int.toNat 3 % 2147483629 / 16 % m))) [.lst [.list (ds.map .int), .int (i + 1), .int l]] :=
    fun x => ⟨.inl (small (by omega) (by omega)), mix1 h2 (by omega), by omega, .inl (small (by omega) (by omega)), .inr (small (by omega) (by omega)), mix2 h2 (by omega), by omega, cdw (by omega) (by omega), h6, q' _ _ h4 (.inr rfl) _⟩
  simp only [st__law_draw, ↓Pz.wC_ap, ↓Pz.wVar_ap, ↓Pz.wOp_ap, ↓Pz.wTest_ap, ↓Pz.wNil_ap, ↓Pz.wCons_ap, ↓Pz.wCall_ap, ↓Pz.wCallW_ap, ↓Pz.wApp_ap, ↓Pz.wLst_ap, ↓Pz.wTup_ap, ↓Pz.wLstO_ap, ↓Pz.wNoPart_ap, ↓Pz.wPart_ap, ↓Pz.wSl_ap, ↓Pz.wAnd_ap, ↓Pz.wOr_ap, ↓Pz.wNot_ap, ↓Pz.wAndV_ap, ↓Pz.wOrV_ap, ↓Pz.wNotV_ap, ↓Pz.wIfE_ap, ↓Pz.wTru_ap, ↓Pz.wChain_ap, ↓Pz.wNeg_ap, ↓Pz.wAug_ap, ↓Pz.gNm_ap, ↓Pz.gNl_ap, ↓Pz.gCn_ap, ↓Pz.gTp_ap, ↓Pz.wAsg_ap, ↓Pz.wItE_ap, ↓Pz.wRng1_ap, ↓Pz.wRng2_ap, ↓Pz.wYes_ap, ↓Pz.wLc_ap, ↓Pz.wLcO_ap, ↓Pz.wBM_ap, ↓Pz.wSetIx_ap, ↓Pz.wFrz_ap, ↓Pz.wCallF_ap, ↓Pz.wCallQ_ap, ↓Pz.wCallWF_ap, ↓Pz.wRev_ap, ↓Pz.wRg1_ap, ↓Pz.wRg2_ap, ↓Pz.wListRg_ap, ↓Pz.wRng3_ap, ↓Pz.wEnum_ap, ↓Pz.wZip_ap, ↓Pz.wCallQO_ap, ↓Pz.wDPut_ap, ↓Pz.wPNil_ap, ↓Pz.wPCons_ap, ↓Pz.wDisp_ap, ↓Pz.wDNew_ap, ↓Pz.wDNil_ap, ↓Pz.wEnumX_ap, ↓Pz.wCallE_ap, ↓Pz.wSlO_ap, ↓Pz.wEnumY_ap, ↓Pz.wDGet2_ap, ↓Pz.wMaxDf_ap, ↓Pz.wCallFO_ap, ↓Pz.wRevY_ap, ↓Pz.wFrzX_ap, ↓Pz.wSwp_ap, ↓Pz.wCallX_ap, ↓Pz.wCallXO_ap, ↓Pz.wCallWX_ap, ↓Pz.wRaise1_ap, ↓Pz.wRaise0_ap, ↓Pz.wTry_ap, ↓Pz.wIsE_ap, ↓Pz.wXf_ap, ↓Pz.wDispD_ap, ↓Pz.wSortLen_ap, ↓Pz.wGGet_ap, ↓Pz.wMinDf_ap, ↓Pz.wPar_ap, ↓Pz.wLam_ap, ↓Pz.wAct_ap, ↓Pz.wRep_ap, ↓Pz.wZipM_ap, ↓Pz.wZipN_ap, ↓Pz.wLenSet_ap, ↓Pz.wBor_ap, ↓Pz.gTpL_ap, ↓Pz.wTupRg_ap, ↓Pz.wRevS_ap, ↓Pz.wFmt_ap, ↓Pz.wJoined_ap, ↓Pz.wAsgS_ap, ↓Pz.wPar3_ap, ↓Pz.wDc_ap, ↓Pz.wDcT_ap, ↓Pz.wDGet3_ap, ↓Pz.wListV_ap, ↓Pz.wSumV_ap, ↓Pz.wDIn_ap, ↓Pz.wTGet2_ap, ↓Pz.wTPut_ap, ↓Pz.wDAug_ap, ↓Pz.wFrzL_ap, ↓Pz.wItV_ap, ↓Pz.wItI_ap, ↓Pz.wItK_ap, ↓Pz.wDisp1_ap, ↓Pz.wBorD_ap, ↓Pz.wDNewT_ap, ↓Pz.wCallFD_ap, ↓Pz.wDNew_ap, ↓Pz.wItC_ap, ↓Pz.wCallXE_ap, ↓Pz.wTSetd_ap, ↓Pz.wListRgO_ap, ↓Pz.wTryC_ap, ↓Pz.wMinLen_ap, ↓Pz.wDNewN_ap, ↓Pz.wNSetd_ap, ↓Pz.wFrzN_ap, Pz.setAll, ↓Pz.wClose_ap, ↓Pz.wSetIxO_ap, ↓Pz.oIxS_ap, ↓Pz.wRaise3_ap, ↓Pz.oMulT_ap, Pz.dkX, Pz.unKD_kdD, Option.isSome_some, ↓Pz.wOrX_apS, ↓Pz.wAndX_apS, ↓Pz.orP_str, Pz.orP_some, Pz.orP_none, ↓oTGet, ↓oLtS, ↓oLtT, ↓fListKy, ↓fSortKy, ↓fLenD_o, ↓Pz.aFD, Pz.unD_K, Pz.unD_T, Pz.kyS_t, Pz.keysL_nil, Pz.keysL_ci, Pz.keysL_cs, ↓Pz.dtAt_o, Pz.dtAt_L, ↓Pz.dkAny_o, Pz.dkAny_D, Pz.dkAny_L, ↓Pz.dvAt_o, Pz.dvAt_D, Pz.dvAt_L, Pz.dvAt_T, ↓Pz.dkyS_o, Pz.dkyS_D, Pz.dkyS_L, Pz.dkyS_T, ↓Pz.dinS_o, Pz.dinS_D, Pz.dinS_L, Pz.dinS_T, Pz.lkP_K, Pz.lkP_T, Pz.lkV_K, Pz.lkV_T, Pz.lkV_N, ↓Pz.dnAt_o, Pz.oK_n, Pz.oK_i, ↓ret1_dT, cl_dt, Pz.lkOf_K, Pz.lkOf_T, Pz.xor_f, Pz.xor_t, Pz.hasD_int, Option.bind, Option.bind_some, List.set, ↓seq_mk, ↓wTrim_mk, trimS, List.take_succ_cons, List.take_zero, Nat.reduceLT, ↓nx_mk, ↓set_mk, ↓if_mk, nthS, ↓oEq, ↓oNe, vw, ↓oAdd, ↓oSub, ↓oIadd, ↓oDGet, keyOf_str, keyOf_int, keyS_str, keyS_int, ↓dkAt_o, valE_cells, valE_at, valE_left, putE_at, putE_left, mergeE, mergeD1, kvD1, keyD_s, keyD_i, ret1_dE, cl_dk, ↓fIsi, ↓fDivmod, ↓fStr, Pz.okT_int, Pz.is_int_none, Pz.is_int_bool, Pz.is_int_int, Pz.is_int_str, Pz.is_int_list, Pz.is_int_tuple, Pz.is_int_dict, Pz.okT_bool, Pz.is_bool_none, Pz.is_bool_bool, Pz.is_bool_int, Pz.is_bool_str, Pz.is_bool_list, Pz.is_bool_tuple, Pz.is_bool_dict, Pz.okT_str, Pz.is_str_none, Pz.is_str_bool, Pz.is_str_int, Pz.is_str_str, Pz.is_str_list, Pz.is_str_tuple, Pz.is_str_dict, Pz.okT_tuple, Pz.is_tuple_none, Pz.is_tuple_bool, Pz.is_tuple_int, Pz.is_tuple_str, Pz.is_tuple_list, Pz.is_tuple_tuple, Pz.is_tuple_dict, Pz.okT_list, Pz.is_list_none, Pz.is_list_bool, Pz.is_list_int, Pz.is_list_str, Pz.is_list_list, Pz.is_list_tuple, Pz.is_list_dict, Pz.is_dict_none, Pz.is_dict_bool, Pz.is_dict_int, Pz.is_dict_str, Pz.is_dict_list, Pz.is_dict_tuple, Pz.is_dict_dict, ↓oFdiv, ↓oMod, ↓oMul, ↓oPow, ↓oBool, ↓oII, ↓oIsN, ↓oNotN, ↓oIn, ↓oInX, ↓oInQ, ↓oInT, ↓oIsB, ↓oIsBN, ↓oNotB, noneS, ↓ret_mk, ↓retN_mk, ↓bk_mk, ↓ct_mk, ↓expr_mk, ↓for_mk, truD, ↓oIxE, ↓mPopAt, ↓mIndex, ↓mInsert, ↓fIntS, ↓fStrN, ↓Pz.wJs_cons, ↓Pz.wJs_nil, at0, at1, at2, at3, ix10, ix20, ix21, ix30, ix31, ix32, Pz.len1, Pz.len2, Pz.len3, List.length_nil, List.length_cons, sh_int, sh_bl, sh_non, Int.reduceEq, reduceCtorEq, decide_true, decide_false, sh_nil, eqv_nn, eqv_nilL, List.isEmpty_map, sh_lit, List.flatten_replicate_singleton, List.length_replicate, eqv_int, Nat.zero_le, szL, Nat.reduceLeDiff, Nat.reduceAdd, ↓ret1_d, ↓ret1_o0, ↓ret1_o1, ↓ret1_o2, ↓ret0_o0, ↓ret_d, cl_lst, true_and, and_true, decide_eq_true_eq, ↓oSl, ↓oSlO, ↓fLen, ↓fAbs, ↓fInt, ↓fMaxE, ↓fMinE, ↓fSumE, ↓Pz.fSumL, ↓fAll, ↓fAny, ↓fList, ↓fListO, ↓fListE, ↓fListEO, ↓fTuple, ↓fSortedE, ↓fSortedS, ↓fSortedG, ↓Pz.fSortedGO, ↓fRep, ↓fRepX, ↓fRepZ, ↓fRepW, ↓fBool, vwJ_l, vwJ_t, vwS_l, vwS_t, vwB, dsOf, tyD, ↓mAppend, ↓mExtend, ↓mPop, ↓mReverse, ↓mSplit, ↓mSplitO, ↓mStrip, ↓mLstrip, ↓mRstrip, ↓mStr2, ↓mPart, ↓mJoinE, frzS, frzX, ↓excOf_o, Pz.excOf_d, ↓oDGetX, List.map_cons, List.map_nil, List.getElem?_cons_zero, List.getElem?_cons_succ, List.cons_append, List.nil_append, Bool.false_eq_true, Bool.true_eq_false, ↓reduceIte, p10_3, p10_6, p10_7, p10_9, p10_12, Option.map, ↓aQ, ↓aQO, ↓aFO, borS, atomD, ↓aXO, ↓oAddO, ↓oMulO, Option.some.injEq, exists_eq_left', exists_and_left, datO, datQ_d, ↓mCount, ↓mCountS, Bool.not_true, Bool.not_false, ↓F_parents, ↓F_blocks, ↓F__law_draw, ↓F__law_depths, ↓F__law_parents, ↓F__law_blocks, g_kw_blocks_0_levels, g_kw_parents_0_levels, sh_ints, eqv_nil]
  split
  · exact ⟨h6, cdw h6 h7, q' _ _ (Int.ediv_nonneg h4 (by omega)) (.inl rfl) _⟩
  · refine ⟨.inl (small (by omega) (by omega)), ?_⟩
    by_cases hd : ds = []
    · subst hd
      simp only [List.isEmpty_nil, ↓Pz.wC_ap, ↓Pz.wVar_ap, ↓Pz.wOp_ap, ↓Pz.wTest_ap, ↓Pz.wNil_ap, ↓Pz.wCons_ap, ↓Pz.wCall_ap, ↓Pz.wCallW_ap, ↓Pz.wApp_ap, ↓Pz.wLst_ap, ↓Pz.wTup_ap, ↓Pz.wLstO_ap, ↓Pz.wNoPart_ap, ↓Pz.wPart_ap, ↓Pz.wSl_ap, ↓Pz.wAnd_ap, ↓Pz.wOr_ap, ↓Pz.wNot_ap, ↓Pz.wAndV_ap, ↓Pz.wOrV_ap, ↓Pz.wNotV_ap, ↓Pz.wIfE_ap, ↓Pz.wTru_ap, ↓Pz.wChain_ap, ↓Pz.wNeg_ap, ↓Pz.wAug_ap, ↓Pz.gNm_ap, ↓Pz.gNl_ap, ↓Pz.gCn_ap, ↓Pz.gTp_ap, ↓Pz.wAsg_ap, ↓Pz.wItE_ap, ↓Pz.wRng1_ap, ↓Pz.wRng2_ap, ↓Pz.wYes_ap, ↓Pz.wLc_ap, ↓Pz.wLcO_ap, ↓Pz.wBM_ap, ↓Pz.wSetIx_ap, ↓Pz.wFrz_ap, ↓Pz.wCallF_ap, ↓Pz.wCallQ_ap, ↓Pz.wCallWF_ap, ↓Pz.wRev_ap, ↓Pz.wRg1_ap, ↓Pz.wRg2_ap, ↓Pz.wListRg_ap, ↓Pz.wRng3_ap, ↓Pz.wEnum_ap, ↓Pz.wZip_ap, ↓Pz.wCallQO_ap, ↓Pz.wDPut_ap, ↓Pz.wPNil_ap, ↓Pz.wPCons_ap, ↓Pz.wDisp_ap, ↓Pz.wDNew_ap, ↓Pz.wDNil_ap, ↓Pz.wEnumX_ap, ↓Pz.wCallE_ap, ↓Pz.wSlO_ap, ↓Pz.wEnumY_ap, ↓Pz.wDGet2_ap, ↓Pz.wMaxDf_ap, ↓Pz.wCallFO_ap, ↓Pz.wRevY_ap, ↓Pz.wFrzX_ap, ↓Pz.wSwp_ap, ↓Pz.wCallX_ap, ↓Pz.wCallXO_ap, ↓Pz.wCallWX_ap, ↓Pz.wRaise1_ap, ↓Pz.wRaise0_ap, ↓Pz.wTry_ap, ↓Pz.wIsE_ap, ↓Pz.wXf_ap, ↓Pz.wDispD_ap, ↓Pz.wSortLen_ap, ↓Pz.wGGet_ap, ↓Pz.wMinDf_ap, ↓Pz.wPar_ap, ↓Pz.wLam_ap, ↓Pz.wAct_ap, ↓Pz.wRep_ap, ↓Pz.wZipM_ap, ↓Pz.wZipN_ap, ↓Pz.wLenSet_ap, ↓Pz.wBor_ap, ↓Pz.gTpL_ap, ↓Pz.wTupRg_ap, ↓Pz.wRevS_ap, ↓Pz.wFmt_ap, ↓Pz.wJoined_ap, ↓Pz.wAsgS_ap, ↓Pz.wPar3_ap, ↓Pz.wDc_ap, ↓Pz.wDcT_ap, ↓Pz.wDGet3_ap, ↓Pz.wListV_ap, ↓Pz.wSumV_ap, ↓Pz.wDIn_ap, ↓Pz.wTGet2_ap, ↓Pz.wTPut_ap, ↓Pz.wDAug_ap, ↓Pz.wFrzL_ap, ↓Pz.wItV_ap, ↓Pz.wItI_ap, ↓Pz.wItK_ap, ↓Pz.wDisp1_ap, ↓Pz.wBorD_ap, ↓Pz.wDNewT_ap, ↓Pz.wCallFD_ap, ↓Pz.wDNew_ap, ↓Pz.wItC_ap, ↓Pz.wCallXE_ap, ↓Pz.wTSetd_ap, ↓Pz.wListRgO_ap, ↓Pz.wTryC_ap, ↓Pz.wMinLen_ap, ↓Pz.wDNewN_ap, ↓Pz.wNSetd_ap, ↓Pz.wFrzN_ap, Pz.setAll, ↓Pz.wClose_ap, ↓Pz.wSetIxO_ap, ↓Pz.oIxS_ap, ↓Pz.wRaise3_ap, ↓Pz.oMulT_ap, Pz.dkX, Pz.unKD_kdD, Option.isSome_some, ↓Pz.wOrX_apS, ↓Pz.wAndX_apS, ↓Pz.orP_str, Pz.orP_some, Pz.orP_none, ↓oTGet, ↓oLtS, ↓oLtT, ↓fListKy, ↓fSortKy, ↓fLenD_o, ↓Pz.aFD, Pz.unD_K, Pz.unD_T, Pz.kyS_t, Pz.keysL_nil, Pz.keysL_ci, Pz.keysL_cs, ↓Pz.dtAt_o, Pz.dtAt_L, ↓Pz.dkAny_o, Pz.dkAny_D, Pz.dkAny_L, ↓Pz.dvAt_o, Pz.dvAt_D, Pz.dvAt_L, Pz.dvAt_T, ↓Pz.dkyS_o, Pz.dkyS_D, Pz.dkyS_L, Pz.dkyS_T, ↓Pz.dinS_o, Pz.dinS_D, Pz.dinS_L, Pz.dinS_T, Pz.lkP_K, Pz.lkP_T, Pz.lkV_K, Pz.lkV_T, Pz.lkV_N, ↓Pz.dnAt_o, Pz.oK_n, Pz.oK_i, ↓ret1_dT, cl_dt, Pz.lkOf_K, Pz.lkOf_T, Pz.xor_f, Pz.xor_t, Pz.hasD_int, Option.bind, Option.bind_some, List.set, ↓seq_mk, ↓wTrim_mk, trimS, List.take_succ_cons, List.take_zero, Nat.reduceLT, ↓nx_mk, ↓set_mk, ↓if_mk, nthS, ↓oEq, ↓oNe, vw, ↓oAdd, ↓oSub, ↓oIadd, ↓oDGet, keyOf_str, keyOf_int, keyS_str, keyS_int, ↓dkAt_o, valE_cells, valE_at, valE_left, putE_at, putE_left, mergeE, mergeD1, kvD1, keyD_s, keyD_i, ret1_dE, cl_dk, ↓fIsi, ↓fDivmod, ↓fStr, Pz.okT_int, Pz.is_int_none, Pz.is_int_bool, Pz.is_int_int, Pz.is_int_str, Pz.is_int_list, Pz.is_int_tuple, Pz.is_int_dict, Pz.okT_bool, Pz.is_bool_none, Pz.is_bool_bool, Pz.is_bool_int, Pz.is_bool_str, Pz.is_bool_list, Pz.is_bool_tuple, Pz.is_bool_dict, Pz.okT_str, Pz.is_str_none, Pz.is_str_bool, Pz.is_str_int, Pz.is_str_str, Pz.is_str_list, Pz.is_str_tuple, Pz.is_str_dict, Pz.okT_tuple, Pz.is_tuple_none, Pz.is_tuple_bool, Pz.is_tuple_int, Pz.is_tuple_str, Pz.is_tuple_list, Pz.is_tuple_tuple, Pz.is_tuple_dict, Pz.okT_list, Pz.is_list_none, Pz.is_list_bool, Pz.is_list_int, Pz.is_list_str, Pz.is_list_list, Pz.is_list_tuple, Pz.is_list_dict, Pz.is_dict_none, Pz.is_dict_bool, Pz.is_dict_int, Pz.is_dict_str, Pz.is_dict_list, Pz.is_dict_tuple, Pz.is_dict_dict, ↓oFdiv, ↓oMod, ↓oMul, ↓oPow, ↓oBool, ↓oII, ↓oIsN, ↓oNotN, ↓oIn, ↓oInX, ↓oInQ, ↓oInT, ↓oIsB, ↓oIsBN, ↓oNotB, noneS, ↓ret_mk, ↓retN_mk, ↓bk_mk, ↓ct_mk, ↓expr_mk, ↓for_mk, truD, ↓oIxE, ↓mPopAt, ↓mIndex, ↓mInsert, ↓fIntS, ↓fStrN, ↓Pz.wJs_cons, ↓Pz.wJs_nil, at0, at1, at2, at3, ix10, ix20, ix21, ix30, ix31, ix32, Pz.len1, Pz.len2, Pz.len3, List.length_nil, List.length_cons, sh_int, sh_bl, sh_non, Int.reduceEq, reduceCtorEq, decide_true, decide_false, sh_nil, eqv_nn, eqv_nilL, List.isEmpty_map, sh_lit, List.flatten_replicate_singleton, List.length_replicate, eqv_int, Nat.zero_le, szL, Nat.reduceLeDiff, Nat.reduceAdd, ↓ret1_d, ↓ret1_o0, ↓ret1_o1, ↓ret1_o2, ↓ret0_o0, ↓ret_d, cl_lst, true_and, and_true, decide_eq_true_eq, ↓oSl, ↓oSlO, ↓fLen, ↓fAbs, ↓fInt, ↓fMaxE, ↓fMinE, ↓fSumE, ↓Pz.fSumL, ↓fAll, ↓fAny, ↓fList, ↓fListO, ↓fListE, ↓fListEO, ↓fTuple, ↓fSortedE, ↓fSortedS, ↓fSortedG, ↓Pz.fSortedGO, ↓fRep, ↓fRepX, ↓fRepZ, ↓fRepW, ↓fBool, vwJ_l, vwJ_t, vwS_l, vwS_t, vwB, dsOf, tyD, ↓mAppend, ↓mExtend, ↓mPop, ↓mReverse, ↓mSplit, ↓mSplitO, ↓mStrip, ↓mLstrip, ↓mRstrip, ↓mStr2, ↓mPart, ↓mJoinE, frzS, frzX, ↓excOf_o, Pz.excOf_d, ↓oDGetX, List.map_cons, List.map_nil, List.getElem?_cons_zero, List.getElem?_cons_succ, List.cons_append, List.nil_append, Bool.false_eq_true, Bool.true_eq_false, ↓reduceIte, p10_3, p10_6, p10_7, p10_9, p10_12, Option.map, ↓aQ, ↓aQO, ↓aFO, borS, atomD, ↓aXO, ↓oAddO, ↓oMulO, Option.some.injEq, exists_eq_left', exists_and_left, datO, datQ_d, ↓mCount, ↓mCountS, Bool.not_true, Bool.not_false, ↓F_parents, ↓F_blocks, ↓F__law_draw, ↓F__law_depths, ↓F__law_parents, ↓F__law_blocks, g_kw_blocks_0_levels, g_kw_parents_0_levels, List.length_map]
      rw [if_neg (by simpa using h2)]
      exact ⟨by omega, q2 _⟩
    · have he : ds.isEmpty = false := by cases ds with | nil => exact absurd rfl hd | cons _ _ => rfl
      have hp : 0 < ((ds.map PyData.int).length : Int) := by cases ds with | nil => exact absurd rfl hd | cons _ _ => simp only [List.map_cons, List.length_cons]; omega
      obtain ⟨y, e, my⟩ := atI_lt (xs := ds.map PyData.int) (i := i % (ds.map PyData.int).length) (Int.emod_nonneg _ (by omega)) (Int.emod_lt_of_pos _ hp)
      obtain ⟨v, _, rfl⟩ := List.mem_map.mp my
      simp only [he, e, ↓Pz.wC_ap, ↓Pz.wVar_ap, ↓Pz.wOp_ap, ↓Pz.wTest_ap, ↓Pz.wNil_ap, ↓Pz.wCons_ap, ↓Pz.wCall_ap, ↓Pz.wCallW_ap, ↓Pz.wApp_ap, ↓Pz.wLst_ap, ↓Pz.wTup_ap, ↓Pz.wLstO_ap, ↓Pz.wNoPart_ap, ↓Pz.wPart_ap, ↓Pz.wSl_ap, ↓Pz.wAnd_ap, ↓Pz.wOr_ap, ↓Pz.wNot_ap, ↓Pz.wAndV_ap, ↓Pz.wOrV_ap, ↓Pz.wNotV_ap, ↓Pz.wIfE_ap, ↓Pz.wTru_ap, ↓Pz.wChain_ap, ↓Pz.wNeg_ap, ↓Pz.wAug_ap, ↓Pz.gNm_ap, ↓Pz.gNl_ap, ↓Pz.gCn_ap, ↓Pz.gTp_ap, ↓Pz.wAsg_ap, ↓Pz.wItE_ap, ↓Pz.wRng1_ap, ↓Pz.wRng2_ap, ↓Pz.wYes_ap, ↓Pz.wLc_ap, ↓Pz.wLcO_ap, ↓Pz.wBM_ap, ↓Pz.wSetIx_ap, ↓Pz.wFrz_ap, ↓Pz.wCallF_ap, ↓Pz.wCallQ_ap, ↓Pz.wCallWF_ap, ↓Pz.wRev_ap, ↓Pz.wRg1_ap, ↓Pz.wRg2_ap, ↓Pz.wListRg_ap, ↓Pz.wRng3_ap, ↓Pz.wEnum_ap, ↓Pz.wZip_ap, ↓Pz.wCallQO_ap, ↓Pz.wDPut_ap, ↓Pz.wPNil_ap, ↓Pz.wPCons_ap, ↓Pz.wDisp_ap, ↓Pz.wDNew_ap, ↓Pz.wDNil_ap, ↓Pz.wEnumX_ap, ↓Pz.wCallE_ap, ↓Pz.wSlO_ap, ↓Pz.wEnumY_ap, ↓Pz.wDGet2_ap, ↓Pz.wMaxDf_ap, ↓Pz.wCallFO_ap, ↓Pz.wRevY_ap, ↓Pz.wFrzX_ap, ↓Pz.wSwp_ap, ↓Pz.wCallX_ap, ↓Pz.wCallXO_ap, ↓Pz.wCallWX_ap, ↓Pz.wRaise1_ap, ↓Pz.wRaise0_ap, ↓Pz.wTry_ap, ↓Pz.wIsE_ap, ↓Pz.wXf_ap, ↓Pz.wDispD_ap, ↓Pz.wSortLen_ap, ↓Pz.wGGet_ap, ↓Pz.wMinDf_ap, ↓Pz.wPar_ap, ↓Pz.wLam_ap, ↓Pz.wAct_ap, ↓Pz.wRep_ap, ↓Pz.wZipM_ap, ↓Pz.wZipN_ap, ↓Pz.wLenSet_ap, ↓Pz.wBor_ap, ↓Pz.gTpL_ap, ↓Pz.wTupRg_ap, ↓Pz.wRevS_ap, ↓Pz.wFmt_ap, ↓Pz.wJoined_ap, ↓Pz.wAsgS_ap, ↓Pz.wPar3_ap, ↓Pz.wDc_ap, ↓Pz.wDcT_ap, ↓Pz.wDGet3_ap, ↓Pz.wListV_ap, ↓Pz.wSumV_ap, ↓Pz.wDIn_ap, ↓Pz.wTGet2_ap, ↓Pz.wTPut_ap, ↓Pz.wDAug_ap, ↓Pz.wFrzL_ap, ↓Pz.wItV_ap, ↓Pz.wItI_ap, ↓Pz.wItK_ap, ↓Pz.wDisp1_ap, ↓Pz.wBorD_ap, ↓Pz.wDNewT_ap, ↓Pz.wCallFD_ap, ↓Pz.wDNew_ap, ↓Pz.wItC_ap, ↓Pz.wCallXE_ap, ↓Pz.wTSetd_ap, ↓Pz.wListRgO_ap, ↓Pz.wTryC_ap, ↓Pz.wMinLen_ap, ↓Pz.wDNewN_ap, ↓Pz.wNSetd_ap, ↓Pz.wFrzN_ap, Pz.setAll, ↓Pz.wClose_ap, ↓Pz.wSetIxO_ap, ↓Pz.oIxS_ap, ↓Pz.wRaise3_ap, ↓Pz.oMulT_ap, Pz.dkX, Pz.unKD_kdD, Option.isSome_some, ↓Pz.wOrX_apS, ↓Pz.wAndX_apS, ↓Pz.orP_str, Pz.orP_some, Pz.orP_none, ↓oTGet, ↓oLtS, ↓oLtT, ↓fListKy, ↓fSortKy, ↓fLenD_o, ↓Pz.aFD, Pz.unD_K, Pz.unD_T, Pz.kyS_t, Pz.keysL_nil, Pz.keysL_ci, Pz.keysL_cs, ↓Pz.dtAt_o, Pz.dtAt_L, ↓Pz.dkAny_o, Pz.dkAny_D, Pz.dkAny_L, ↓Pz.dvAt_o, Pz.dvAt_D, Pz.dvAt_L, Pz.dvAt_T, ↓Pz.dkyS_o, Pz.dkyS_D, Pz.dkyS_L, Pz.dkyS_T, ↓Pz.dinS_o, Pz.dinS_D, Pz.dinS_L, Pz.dinS_T, Pz.lkP_K, Pz.lkP_T, Pz.lkV_K, Pz.lkV_T, Pz.lkV_N, ↓Pz.dnAt_o, Pz.oK_n, Pz.oK_i, ↓ret1_dT, cl_dt, Pz.lkOf_K, Pz.lkOf_T, Pz.xor_f, Pz.xor_t, Pz.hasD_int, Option.bind, Option.bind_some, List.set, ↓seq_mk, ↓wTrim_mk, trimS, List.take_succ_cons, List.take_zero, Nat.reduceLT, ↓nx_mk, ↓set_mk, ↓if_mk, nthS, ↓oEq, ↓oNe, vw, ↓oAdd, ↓oSub, ↓oIadd, ↓oDGet, keyOf_str, keyOf_int, keyS_str, keyS_int, ↓dkAt_o, valE_cells, valE_at, valE_left, putE_at, putE_left, mergeE, mergeD1, kvD1, keyD_s, keyD_i, ret1_dE, cl_dk, ↓fIsi, ↓fDivmod, ↓fStr, Pz.okT_int, Pz.is_int_none, Pz.is_int_bool, Pz.is_int_int, Pz.is_int_str, Pz.is_int_list, Pz.is_int_tuple, Pz.is_int_dict, Pz.okT_bool, Pz.is_bool_none, Pz.is_bool_bool, Pz.is_bool_int, Pz.is_bool_str, Pz.is_bool_list, Pz.is_bool_tuple, Pz.is_bool_dict, Pz.okT_str, Pz.is_str_none, Pz.is_str_bool, Pz.is_str_int, Pz.is_str_str, Pz.is_str_list, Pz.is_str_tuple, Pz.is_str_dict, Pz.okT_tuple, Pz.is_tuple_none, Pz.is_tuple_bool, Pz.is_tuple_int, Pz.is_tuple_str, Pz.is_tuple_list, Pz.is_tuple_tuple, Pz.is_tuple_dict, Pz.okT_list, Pz.is_list_none, Pz.is_list_bool, Pz.is_list_int, Pz.is_list_str, Pz.is_list_list, Pz.is_list_tuple, Pz.is_list_dict, Pz.is_dict_none, Pz.is_dict_bool, Pz.is_dict_int, Pz.is_dict_str, Pz.is_dict_list, Pz.is_dict_tuple, Pz.is_dict_dict, ↓oFdiv, ↓oMod, ↓oMul, ↓oPow, ↓oBool, ↓oII, ↓oIsN, ↓oNotN, ↓oIn, ↓oInX, ↓oInQ, ↓oInT, ↓oIsB, ↓oIsBN, ↓oNotB, noneS, ↓ret_mk, ↓retN_mk, ↓bk_mk, ↓ct_mk, ↓expr_mk, ↓for_mk, truD, ↓oIxE, ↓mPopAt, ↓mIndex, ↓mInsert, ↓fIntS, ↓fStrN, ↓Pz.wJs_cons, ↓Pz.wJs_nil, at0, at1, at2, at3, ix10, ix20, ix21, ix30, ix31, ix32, Pz.len1, Pz.len2, Pz.len3, List.length_nil, List.length_cons, sh_int, sh_bl, sh_non, Int.reduceEq, reduceCtorEq, decide_true, decide_false, sh_nil, eqv_nn, eqv_nilL, List.isEmpty_map, sh_lit, List.flatten_replicate_singleton, List.length_replicate, eqv_int, Nat.zero_le, szL, Nat.reduceLeDiff, Nat.reduceAdd, ↓ret1_d, ↓ret1_o0, ↓ret1_o1, ↓ret1_o2, ↓ret0_o0, ↓ret_d, cl_lst, true_and, and_true, decide_eq_true_eq, ↓oSl, ↓oSlO, ↓fLen, ↓fAbs, ↓fInt, ↓fMaxE, ↓fMinE, ↓fSumE, ↓Pz.fSumL, ↓fAll, ↓fAny, ↓fList, ↓fListO, ↓fListE, ↓fListEO, ↓fTuple, ↓fSortedE, ↓fSortedS, ↓fSortedG, ↓Pz.fSortedGO, ↓fRep, ↓fRepX, ↓fRepZ, ↓fRepW, ↓fBool, vwJ_l, vwJ_t, vwS_l, vwS_t, vwB, dsOf, tyD, ↓mAppend, ↓mExtend, ↓mPop, ↓mReverse, ↓mSplit, ↓mSplitO, ↓mStrip, ↓mLstrip, ↓mRstrip, ↓mStr2, ↓mPart, ↓mJoinE, frzS, frzX, ↓excOf_o, Pz.excOf_d, ↓oDGetX, List.map_cons, List.map_nil, List.getElem?_cons_zero, List.getElem?_cons_succ, List.cons_append, List.nil_append, Bool.false_eq_true, Bool.true_eq_false, ↓reduceIte, p10_3, p10_6, p10_7, p10_9, p10_12, Option.map, ↓aQ, ↓aQO, ↓aFO, borS, atomD, ↓aXO, ↓oAddO, ↓oMulO, Option.some.injEq, exists_eq_left', exists_and_left, datO, datQ_d, ↓mCount, ↓mCountS, Bool.not_true, Bool.not_false, ↓F_parents, ↓F_blocks, ↓F__law_draw, ↓F__law_depths, ↓F__law_parents, ↓F__law_blocks, g_kw_blocks_0_levels, g_kw_parents_0_levels]
      refine ⟨hp, ?_⟩
      refine ite_all ⟨cpow (by omega) (by omega) (by omega) (by omega), ite_all ?_ ⟨by omega, q2 _⟩⟩ ⟨by omega, q2 _⟩
      refine ⟨.inl (small (by omega) (by omega)), cdw h6 h7, h6, q' _ _ (Int.ediv_nonneg ?_ (by omega)) (.inr rfl) _⟩
      by_cases hv : v < 0
      · rw [if_pos hv, if_pos hv]; omega
      · rw [if_neg hv, if_neg hv]; omega
theorem ok__law_parents (T : Tx K mg f_parents f__law_pen f__law_draw f__law_parents f_blocks f__law_depths f__law_blocks f_law fd_parents fd__law_pen fd__law_draw fd__law_parents fd_blocks fd__law_depths fd__law_blocks fd_law) : FnD P w K mg base CX0 1 f__law_parents fd__law_parents ["_law_depths_here"] sp__law_parents := by
  refine FnD.of0 T.d__law_parents.F sc__law_parents 0 _ (fun cdv A outer s H E Z0 hA hr hz => (dss_cons (ds_set 1 sc__law_parents.nd (de_lstO da_nil))
      (dss_cons (ds_for PassesOwn.never rfl (di_enumY rfl T.b_enumerate (da_cons (de_v 0 (pv 0)) da_nil)) (dg_tup (n := 2) rfl (dgs_cons (dg_name 2 sc__law_parents.nd) (dgs_cons (dg_name 3 sc__law_parents.nd) dgs_nil))) (dss_cons (ds_setLc 4 rfl sc__law_parents.nd (di_rng1 rfl T.b_range (da_cons (de_v 2 (pv 2)) da_nil)) (blkOk_by (own := [("_law_other", 5)]) (N := N__law_parents) (sc := defScope s__law_parents) (by decide +kernel)) (by decide) (fun _ _ _ _ _ => (dg_name 5 sc__law_parents.nd)) (fun _ _ _ _ _ => (dpt_one (dt_cmp d2_eq (op_eqD hr.units) (de_ixE (de_v 0 (pv 0)) (de_v 5 (pv 5))) (de_op d2_sub op_sub (de_v 3 (pv 3)) de_int) (nomark _)))) (fun _ _ _ _ _ => (de_v 5 (pv 5))) (sw_true rfl rfl rfl (by decide +kernel)))
      (dss_one (ds_expr (de_bm md_append PySem.F.plainAttrs_list PySem.F.slot_list_append PySem.F.type_list_append mt_append (de_v 1 (pv 1)) (da_cons (de_if (dt_cmp d2_bool op_gt (de_v 3 (pv 3)) de_int (nomark _)) (de_ixE (de_v 4 (pv 4)) (de_neg de_int)) de_non) da_nil))))))
      (dss_one (ds_ret (de_callTy cd_tuple call_tuple_of rfl T.b_tuple (by decide +kernel) (da_cons (de_v 1 (pv 1)) da_nil))))))) ?_
  refine ho__law_parents fun ds Qd ⟨⟨he, hc⟩, hn⟩ q => ?_
  try dsimp only at *
  rw [st__law_parents]
  generalize hf : fnD ds = f at *
  generalize hm : ds.length = n at *
  subst he
  clear hf hm
  rw [seq_mk]
  subst_eqs
  nofun
  refine forL_ix (fun (ds : List PyData) (sl : Sls) (st : Sto) => ∃ (i : Nat) (s_2 s_3 s_4 s_5 : Option Sl), sl = [some (.d (.tuple (dpR f n))), some (.o 0), s_2, s_3, s_4, s_5] ∧ st = [.lst (paL f i)] ∧ i ≤ n ∧ ds = enumD i ((List.range' i (n - i)).map fun j => .int (f j : Nat))) ?_ ?_ _ _ _ ⟨0, _, _, _, _, rfl, rfl, Nat.zero_le _, by rw [← rg_zero]; rfl⟩
  · rintro sl st ⟨i, s_2, s_3, s_4, s_5, rfl, rfl, hi, hd⟩
    have hin : i = n := by
      rcases Nat.lt_or_ge i n with h | h
      · rw [rg_from _ n i h] at hd
        cases hd
      · omega
    subst hin
    nofun
    exact q
  · rintro R B d ds sl st ih ⟨i, s_2, s_3, s_4, s_5, rfl, rfl, hi, hd⟩
    have hin : i < n := by
      rcases Nat.lt_or_ge i n with h | h
      · exact h
      · rw [show n - i = 0 by omega] at hd
        cases hd
    rw [rg_from _ n i hin, enumD, List.cons.injEq] at hd
    obtain ⟨rfl, hd⟩ := hd
    nofun
    refine ⟨by omega, by omega, ?_⟩
    rw [Int.toNat_natCast]
    refine lc_fil (selP f ((f i : Int) - 1)) (by unfold rng; rw [List.length_map, List.length_range]; omega) (fun d m R2 S k1 k2 => ?_) ?_
    · obtain ⟨j, hj, rfl⟩ := rng_mem m
      nofun
      refine ⟨.int (f j : Nat), by have := atI_dp (f := f) (n := n) (j := (j : Int)) (by omega) (by omega); rwa [Int.toNat_natCast] at this, ?_⟩
      subst_vars
      by_cases e : (f j : Int) = (f i : Int) - 1
      · have := k1 (.int (j : Nat)) (by unfold selP; dsimp only; rw [Int.toNat_natCast, if_pos e])
        rw [if_pos e]
        exact this
      · have := k2 (by unfold selP; dsimp only; rw [Int.toNat_natCast, if_neg e])
        rw [if_neg e]
        exact this
    · by_cases h0 : f i = 0
      · rw [h0, show ((0 : Nat) : Int) - 1 = -1 from rfl, sel_neg]
        nofun
        rw [if_neg (by omega)]
        refine ⟨by rw [pa_len]; omega, ?_⟩
        have e : PyData.none = oND (parP f i) := by rw [parP, if_pos h0]; rfl
        rw [e, pa_snoc]
        exact ih _ _ ⟨i + 1, _, _, _, _, rfl, rfl, hin, hd⟩
      · obtain ⟨k, e1, _⟩ := pth_par hc hin (by omega)
        have e2 : lstP f (f i - 1) i = some k := by rw [parP, if_neg h0] at e1; exact e1
        rw [show (f i : Int) - 1 = ((f i - 1 : Nat) : Int) by omega, sel_rng]
        nofun
        rw [if_pos (by omega)]
        refine ⟨.int (k : Nat), atI_last ?_, by rw [pa_len]; omega, ?_⟩
        · unfold nuN
          rw [List.getLast?_map, lst_filter, e2]; rfl
        · have e : PyData.int (k : Nat) = oND (parP f i) := by rw [e1]; rfl
          rw [e, pa_snoc]
          exact ih _ _ ⟨i + 1, _, _, _, _, rfl, rfl, hin, hd⟩
theorem ok_blocks (T : Tx K mg f_parents f__law_pen f__law_draw f__law_parents f_blocks f__law_depths f__law_blocks f_law fd_parents fd__law_pen fd__law_draw fd__law_parents fd_blocks fd__law_depths fd__law_blocks fd_law) : FnD P w K mg base CX0 2 f_blocks fd_blocks ["levels"] sp_blocks := by
  refine FnD.of0 T.d_blocks.F sc_blocks 0 _ (fun cdv A outer s H E Z0 hA hr hz => (dss_cons (ds_set 1 sc_blocks.nd de_dnewN)
      (dss_cons (ds_for PassesOwn.never rfl (di_enumY rfl T.b_enumerate (da_cons (de_callF fo_parents (ok_parents T) hA (hr.mono (by decide)) rfl rfl T.d_parents.g T.d_parents.F.kp T.d_parents.b (da_cons (de_v 0 (pv 0)) da_nil)) da_nil)) (dg_tup (n := 2) rfl (dgs_cons (dg_name 2 sc_blocks.nd) (dgs_cons (dg_name 3 sc_blocks.nd) dgs_nil))) (dss_one (ds_expr (de_bm md_append PySem.F.plainAttrs_list PySem.F.slot_list_append PySem.F.type_list_append mt_append (de_nsetd (de_v 1 (pv 1)) (de_v 3 (pv 3)) (de_lstO da_nil)) (da_cons (de_v 2 (pv 2)) da_nil)))))
      (dss_frzN 0 1 hz (dss_one (ds_ret (de_callB cd_sortedG (cr_sortedG (hr.units)) rfl T.b_sorted (by decide +kernel) (da_cons (de_lc rfl sc_blocks.nd (di_dv (de_v 1 (pv 1))) (blkOk_by (own := [("block", 4)]) (N := N_blocks) (sc := defScope s_blocks) (by decide +kernel)) (by decide) (fun _ _ _ _ _ => (dg_name 4 sc_blocks.nd)) (fun _ _ _ _ _ => dpt_nil) (fun _ _ _ _ _ => (de_callTy cd_tuple call_tuple_of rfl T.b_tuple (by decide +kernel) (da_cons (de_v 4 (pv 4)) da_nil)))) da_nil)))))))) ?_
  refine ho_blocks fun ds Qd ⟨⟨he, hc⟩, hn⟩ q => ?_
  try dsimp only at *
  rw [st_blocks]
  generalize hf : fnD ds = f at *
  generalize hm : ds.length = n at *
  subst he
  have ho : OkR (dpR f n) := ⟨by rw [hf, hm], by rw [hf, hm]; exact hc⟩
  rw [seq_mk]
  subst_eqs
  rw [seq_mk]
  subst_eqs
  nofun
  refine ⟨⟨ho, by rw [hm]; exact hn⟩, ?_⟩
  rw [hf, hm]
  refine forL_ix (fun (ds : List PyData) (sl : Sls) (st : Sto) => ∃ (i : Nat) (u v : Option Sl) (kvs : KNS) (js : List Nat) (rest : Sto), sl = [some (.d (.tuple (dpR f n))), some (.o 0), u, v, none] ∧ st = .dN kvs :: rest ∧ i ≤ n ∧ ds = enumD i ((List.range' i (n - i)).map fun j => oND (parP f j)) ∧ GrR (.dN kvs :: rest) kvs js (grpP f i) ∧ (∀ k, u ≠ some (.o k)) ∧ ∀ k, v ≠ some (.o k)) ?_ ?_ _ _ _ ⟨0, none, none, [], [], [], rfl, rfl, Nat.zero_le _, by rw [← rg_zero]; rfl, .nil, (fun _ z => nomatch z), (fun _ z => nomatch z)⟩
  · rintro sl st ⟨i, u, v, kvs, js, rest, rfl, rfl, hi, hd, hg, hu, hv⟩
    have hin : i = n := by
      rcases Nat.lt_or_ge i n with h | h
      · rw [rg_from _ n i h] at hd
        cases hd
      · omega
    subst hin
    nofun
    refine ⟨_, hg.gn, ?_, (fun c m => by cases m), ?_⟩
    · intro s m k e
      simp only [List.mem_cons, List.not_mem_nil, or_false] at m
      subst e
      rcases m with m | m | m | m | m
      · cases m
      · cases m; exact .inl rfl
      · exact absurd m.symm (hu k)
      · exact absurd m.symm (hv k)
      · cases m
    · rw [gnD, lkV_N]
      dsimp only
      have hgl := grpP_len (f := f) i
      refine lc_map lstT (by simp only [List.length_map]; omega) (fun d m R hR => ?_) ?_
      · obtain ⟨p, hp, rfl⟩ := List.mem_map.mp m
        obtain ⟨p2, hp2, rfl⟩ := List.mem_map.mp hp
        obtain ⟨p3, hp3, rfl⟩ := List.mem_map.mp hp2
        nofun
        exact hR
      · have e : (((grpP f i).map fun p => (oNI p.1, nuN p.2)).map fun p => (oD p.1, PyData.list p.2)).map (·.2) = (grpP f i).map fun p => PyData.list (nuN p.2) := by
          rw [List.map_map, List.map_map]; rfl
        have e2 : ((grpP f i).map fun p => PyData.list (nuN p.2)).map lstT = (grpP f i).map fun p => tpL p.2 := by
          rw [List.map_map]; rfl
        rw [e, e2]
        obtain ⟨s1, s2, s3⟩ := sort_blk (grpP_ne (f := f) i)
        nofun
        exact ⟨s1, s2, s3, q⟩
  · rintro R B d ds sl st ih ⟨i, u, v, kvs, js, rest, rfl, rfl, hi, hd, hg, hu, hv⟩
    have hin : i < n := by
      rcases Nat.lt_or_ge i n with h | h
      · exact h
      · rw [show n - i = 0 by omega] at hd
        cases hd
    rw [rg_from _ n i hin, enumD, List.cons.injEq] at hd
    obtain ⟨rfl, hd⟩ := hd
    nofun
    clear q
    have hlen := hg.len
    have hgl := grpP_len (f := f) i
    rw [oK_oND]
    dsimp only
    refine ⟨by omega, ?_⟩
    cases eg : getN kvs (oNI (parP f i)) with
    | some s' =>
      obtain ⟨j, b, mb, mj, rfl, ej, step⟩ := hg.old (i := i) eg
      obtain ⟨l1, l2⟩ := hg.lt j mj
      have hbl := grpP_bd i _ mb
      have ej' : (Ct.dN kvs :: (rest ++ [Ct.lst []]))[j]? = some (.lst (nuN b)) := by rw [← List.cons_append, List.getElem?_append_left l2]; exact ej
      dsimp only
      rw [ej']
      dsimp only
      refine ⟨trivial, by unfold nuN; rw [List.length_map]; exact Nat.lt_of_le_of_lt hbl (by omega), ?_⟩
      rw [nuN_snoc]
      obtain ⟨j', rfl⟩ : ∃ j', j = j' + 1 := ⟨j - 1, by omega⟩
      refine ih _ _ ⟨i + 1, _, _, kvs, js, (rest ++ [Ct.lst []]).set j' (Ct.lst (nuN (b ++ [i]))), rfl, rfl, hin, hd, ?_, (fun _ z => nomatch z), fun k z => ?_⟩
      · refine step _ ?_ (fun j2 m2 ne => ?_)
        · rw [List.getElem?_cons_succ, List.getElem?_set_self (by rw [List.length_append]; simp at l2 ⊢; omega)]
        · obtain ⟨q1, q2⟩ := hg.lt j2 m2
          obtain ⟨j3, rfl⟩ : ∃ j3, j2 = j3 + 1 := ⟨j2 - 1, by omega⟩
          rw [List.getElem?_cons_succ, List.getElem?_set_ne (by omega), List.getElem?_cons_succ, List.getElem?_append_left (by simpa using q2)]
      · cases z
    | none =>
      dsimp only
      have e0 : (rest ++ [Ct.lst []])[List.length rest]? = some (.lst []) := by simp
      rw [e0]
      dsimp only
      refine ⟨trivial, by simp, ?_⟩
      rw [List.nil_append]
      refine ih _ _ ⟨i + 1, _, _, kvs ++ [(oNI (parP f i), Sl.o (List.length rest + 1))], js ++ [List.length rest + 1], (rest ++ [Ct.lst []]).set (List.length rest) (Ct.lst [PyData.int (i : Nat)]), rfl, rfl, hin, hd, ?_, (fun _ z => nomatch z), fun k z => ?_⟩
      · refine hg.new (by omega) (fun m => ?_) ?_ eg (fun j2 m2 => ?_)
        · have := (hg.lt _ m).2
          simp at this
        · rw [List.getElem?_cons_succ, List.getElem?_set_self (by simp)]; rfl
        · obtain ⟨q1, q2⟩ := hg.lt j2 m2
          obtain ⟨j3, rfl⟩ : ∃ j3, j2 = j3 + 1 := ⟨j2 - 1, by omega⟩
          have q3 : j3 < rest.length := by simpa using q2
          rw [List.getElem?_cons_succ, List.getElem?_set_ne (by omega), List.getElem?_cons_succ, List.getElem?_append_left q3]
      · cases z
theorem okO_blocks (T : Tx K mg f_parents f__law_pen f__law_draw f__law_parents f_blocks f__law_depths f__law_blocks f_law fd_parents fd__law_pen fd__law_draw fd__law_parents fd_blocks fd__law_depths fd__law_blocks fd_law) : FnD P w K mg base CX0 2 f_blocks fd_blocks ["levels"] spO_blocks := by
  refine FnD.of0 T.d_blocks.F sc_blocks 0 _ (fun cdv A outer s H E Z0 hA hr hz => (dss_cons (ds_set 1 sc_blocks.nd de_dnewN)
      (dss_cons (ds_for PassesOwn.never rfl (di_enumY rfl T.b_enumerate (da_cons (de_callF fo_parents (ok_parents T) hA (hr.mono (by decide)) rfl rfl T.d_parents.g T.d_parents.F.kp T.d_parents.b (da_cons (de_v 0 (pv 0)) da_nil)) da_nil)) (dg_tup (n := 2) rfl (dgs_cons (dg_name 2 sc_blocks.nd) (dgs_cons (dg_name 3 sc_blocks.nd) dgs_nil))) (dss_one (ds_expr (de_bm md_append PySem.F.plainAttrs_list PySem.F.slot_list_append PySem.F.type_list_append mt_append (de_nsetd (de_v 1 (pv 1)) (de_v 3 (pv 3)) (de_lstO da_nil)) (da_cons (de_v 2 (pv 2)) da_nil)))))
      (dss_frzN 0 1 hz (dss_one (ds_ret (de_callB cd_sortedGO (cr_sortedG (hr.units)) rfl T.b_sorted (by decide +kernel) (da_cons (de_lc rfl sc_blocks.nd (di_dv (de_v 1 (pv 1))) (blkOk_by (own := [("block", 4)]) (N := N_blocks) (sc := defScope s_blocks) (by decide +kernel)) (by decide) (fun _ _ _ _ _ => (dg_name 4 sc_blocks.nd)) (fun _ _ _ _ _ => dpt_nil) (fun _ _ _ _ _ => (de_callTy cd_tuple call_tuple_of rfl T.b_tuple (by decide +kernel) (da_cons (de_v 4 (pv 4)) da_nil)))) da_nil)))))))) ?_
  refine hoO_blocks fun ds Qd ⟨⟨he, hc⟩, hn⟩ q => ?_
  try dsimp only at *
  rw [st_blocks]
  generalize hf : fnD ds = f at *
  generalize hm : ds.length = n at *
  subst he
  have ho : OkR (dpR f n) := ⟨by rw [hf, hm], by rw [hf, hm]; exact hc⟩
  rw [seq_mk]
  subst_eqs
  rw [seq_mk]
  subst_eqs
  nofun
  refine ⟨⟨ho, by rw [hm]; exact hn⟩, ?_⟩
  rw [hf, hm]
  refine forL_ix (fun (ds : List PyData) (sl : Sls) (st : Sto) => ∃ (i : Nat) (u v : Option Sl) (kvs : KNS) (js : List Nat) (rest : Sto), sl = [some (.d (.tuple (dpR f n))), some (.o 0), u, v, none] ∧ st = .dN kvs :: rest ∧ i ≤ n ∧ ds = enumD i ((List.range' i (n - i)).map fun j => oND (parP f j)) ∧ GrR (.dN kvs :: rest) kvs js (grpP f i) ∧ (∀ k, u ≠ some (.o k)) ∧ ∀ k, v ≠ some (.o k)) ?_ ?_ _ _ _ ⟨0, none, none, [], [], [], rfl, rfl, Nat.zero_le _, by rw [← rg_zero]; rfl, .nil, (fun _ z => nomatch z), (fun _ z => nomatch z)⟩
  · rintro sl st ⟨i, u, v, kvs, js, rest, rfl, rfl, hi, hd, hg, hu, hv⟩
    have hin : i = n := by
      rcases Nat.lt_or_ge i n with h | h
      · rw [rg_from _ n i h] at hd
        cases hd
      · omega
    subst hin
    nofun
    refine ⟨_, hg.gn, ?_, (fun c m => by cases m), ?_⟩
    · intro s m k e
      simp only [List.mem_cons, List.not_mem_nil, or_false] at m
      subst e
      rcases m with m | m | m | m | m
      · cases m
      · cases m; exact .inl rfl
      · exact absurd m.symm (hu k)
      · exact absurd m.symm (hv k)
      · cases m
    · rw [gnD, lkV_N]
      dsimp only
      have hgl := grpP_len (f := f) i
      refine lc_map lstT (by simp only [List.length_map]; omega) (fun d m R hR => ?_) ?_
      · obtain ⟨p, hp, rfl⟩ := List.mem_map.mp m
        obtain ⟨p2, hp2, rfl⟩ := List.mem_map.mp hp
        obtain ⟨p3, hp3, rfl⟩ := List.mem_map.mp hp2
        nofun
        exact hR
      · have e : (((grpP f i).map fun p => (oNI p.1, nuN p.2)).map fun p => (oD p.1, PyData.list p.2)).map (·.2) = (grpP f i).map fun p => PyData.list (nuN p.2) := by
          rw [List.map_map, List.map_map]; rfl
        have e2 : ((grpP f i).map fun p => PyData.list (nuN p.2)).map lstT = (grpP f i).map fun p => tpL p.2 := by
          rw [List.map_map]; rfl
        rw [e, e2]
        obtain ⟨s1, s2, s3⟩ := sort_blk (grpP_ne (f := f) i)
        nofun
        exact ⟨s1, s2, s3, ret0_last q⟩
  · rintro R B d ds sl st ih ⟨i, u, v, kvs, js, rest, rfl, rfl, hi, hd, hg, hu, hv⟩
    have hin : i < n := by
      rcases Nat.lt_or_ge i n with h | h
      · exact h
      · rw [show n - i = 0 by omega] at hd
        cases hd
    rw [rg_from _ n i hin, enumD, List.cons.injEq] at hd
    obtain ⟨rfl, hd⟩ := hd
    nofun
    clear q
    have hlen := hg.len
    have hgl := grpP_len (f := f) i
    rw [oK_oND]
    dsimp only
    refine ⟨by omega, ?_⟩
    cases eg : getN kvs (oNI (parP f i)) with
    | some s' =>
      obtain ⟨j, b, mb, mj, rfl, ej, step⟩ := hg.old (i := i) eg
      obtain ⟨l1, l2⟩ := hg.lt j mj
      have hbl := grpP_bd i _ mb
      have ej' : (Ct.dN kvs :: (rest ++ [Ct.lst []]))[j]? = some (.lst (nuN b)) := by rw [← List.cons_append, List.getElem?_append_left l2]; exact ej
      dsimp only
      rw [ej']
      dsimp only
      refine ⟨trivial, by unfold nuN; rw [List.length_map]; exact Nat.lt_of_le_of_lt hbl (by omega), ?_⟩
      rw [nuN_snoc]
      obtain ⟨j', rfl⟩ : ∃ j', j = j' + 1 := ⟨j - 1, by omega⟩
      refine ih _ _ ⟨i + 1, _, _, kvs, js, (rest ++ [Ct.lst []]).set j' (Ct.lst (nuN (b ++ [i]))), rfl, rfl, hin, hd, ?_, (fun _ z => nomatch z), fun k z => ?_⟩
      · refine step _ ?_ (fun j2 m2 ne => ?_)
        · rw [List.getElem?_cons_succ, List.getElem?_set_self (by rw [List.length_append]; simp at l2 ⊢; omega)]
        · obtain ⟨q1, q2⟩ := hg.lt j2 m2
          obtain ⟨j3, rfl⟩ : ∃ j3, j2 = j3 + 1 := ⟨j2 - 1, by omega⟩
          rw [List.getElem?_cons_succ, List.getElem?_set_ne (by omega), List.getElem?_cons_succ, List.getElem?_append_left (by simpa using q2)]
      · cases z
    | none =>
      dsimp only
      have e0 : (rest ++ [Ct.lst []])[List.length rest]? = some (.lst []) := by simp
      rw [e0]
      dsimp only
      refine ⟨trivial, by simp, ?_⟩
      rw [List.nil_append]
      refine ih _ _ ⟨i + 1, _, _, kvs ++ [(oNI (parP f i), Sl.o (List.length rest + 1))], js ++ [List.length rest + 1], (rest ++ [Ct.lst []]).set (List.length rest) (Ct.lst [PyData.int (i : Nat)]), rfl, rfl, hin, hd, ?_, (fun _ z => nomatch z), fun k z => ?_⟩
      · refine hg.new (by omega) (fun m => ?_) ?_ eg (fun j2 m2 => ?_)
        · have := (hg.lt _ m).2
          simp at this
        · rw [List.getElem?_cons_succ, List.getElem?_set_self (by simp)]; rfl
        · obtain ⟨q1, q2⟩ := hg.lt j2 m2
          obtain ⟨j3, rfl⟩ : ∃ j3, j2 = j3 + 1 := ⟨j2 - 1, by omega⟩
          have q3 : j3 < rest.length := by simpa using q2
          rw [List.getElem?_cons_succ, List.getElem?_set_ne (by omega), List.getElem?_cons_succ, List.getElem?_append_left q3]
      · cases z
theorem ok__law_depths (T : Tx K mg f_parents f__law_pen f__law_draw f__law_parents f_blocks f__law_depths f__law_blocks f_law fd_parents fd__law_pen fd__law_draw fd__law_parents fd_blocks fd__law_depths fd__law_blocks fd_law) : FnD P w K mg base CX0 2 f__law_depths fd__law_depths ["_law_pen_here"] sp__law_depths := by
  refine FnD.of0 T.d__law_depths.F sc__law_depths 1 _ (fun cdv A outer s H E Z0 hA hr hz => (dss_cons (ds_set 1 sc__law_depths.nd (de_lstO da_nil))
      (dss_cons (ds_for PassesOwn.never rfl (di_rng1 rfl T.b_range (da_cons (de_callQ fo__law_draw (ok__law_draw T) hA (hr.mono (by decide)) rfl rfl T.d__law_draw.g T.d__law_draw.F.kp T.d__law_draw.b (da_cons (de_v 0 (pv 0)) (da_cons (de_ixE (de_lst (da_cons de_int (da_cons de_int da_nil))) (de_callQ fo__law_draw (ok__law_draw T) hA (hr.mono (by decide)) rfl rfl T.d__law_draw.g T.d__law_draw.F.kp T.d__law_draw.b (da_cons (de_v 0 (pv 0)) (da_cons de_int da_nil)))) da_nil))) da_nil)) (dg_name 2 sc__law_depths.nd) (dss_cons (ds_set 3 sc__law_depths.nd (de_callQ fo__law_draw (ok__law_draw T) hA (hr.mono (by decide)) rfl rfl T.d__law_draw.g T.d__law_draw.F.kp T.d__law_draw.b (da_cons (de_v 0 (pv 0)) (da_cons de_int da_nil))))
      (dss_cons (ds_set 4 sc__law_depths.nd (de_if (dt_cmp d2_bool op_gt (de_v 2 (pv 2)) de_int (nomark _)) (de_ixE (de_op d2_add op_addR (de_v 1 (pv 1)) (de_lst (da_cons de_int da_nil))) (de_op d2_sub op_sub (de_v 2 (pv 2)) de_int)) (de_neg de_int)))
      (dss_one (ds_expr (de_bm md_append PySem.F.plainAttrs_list PySem.F.slot_list_append PySem.F.type_list_append mt_append (de_v 1 (pv 1)) (da_cons (de_ixE (de_lst (da_cons (de_op d2_add op_addR (de_v 4 (pv 4)) de_int) (da_cons (de_op d2_add op_addR (de_v 4 (pv 4)) de_int) (da_cons (de_callB cd_maxE (cr_maxE rfl) rfl T.b_max (by decide +kernel) (da_cons de_int (da_cons (de_v 4 (pv 4)) da_nil))) (da_cons (de_callQ fo__law_draw (ok__law_draw T) hA (hr.mono (by decide)) rfl rfl T.d__law_draw.g T.d__law_draw.F.kp T.d__law_draw.b (da_cons (de_v 0 (pv 0)) (da_cons (de_op d2_add op_addR (de_v 4 (pv 4)) de_int) da_nil))) da_nil))))) (de_v 3 (pv 3))) da_nil)))))))
      (dss_one (ds_ret (de_callTy cd_tuple call_tuple_of rfl T.b_tuple (by decide +kernel) (da_cons (de_v 1 (pv 1)) da_nil))))))) ?_
  refine ho__law_depths fun c n Qd p hn _ q => ?_
  try dsimp only at *
  rw [st__law_depths]
  rw [seq_mk]
  subst_eqs
  rw [seq_mk]
  subst_eqs
  refine ⟨_, p, by omega, ⟨by omega, by omega⟩, fun r1 a1 b1 c1 p1 => ?_⟩
  obtain ⟨m, em, hm⟩ : ∃ m : Int, atI [PyData.int 7, PyData.int 21] r1 = some (.int m) ∧ (m = 7 ∨ m = 21) := by
    obtain rfl | rfl : r1 = 0 ∨ r1 = 1 := by omega
    · exact ⟨_, rfl, .inl rfl⟩
    · exact ⟨_, rfl, .inr rfl⟩
  refine ⟨_, em, _, p1, by omega, ⟨by omega, by omega⟩, fun r2 a2 b2 c2 p2 => ?_⟩
  refine ⟨by omega, by omega, ?_⟩
  refine forL_ix (fun (ds : List PyData) (sl : Sls) (st : Sto) => ∃ (L : List Int) (j : Nat) (c : Ct) (s_2 s_3 s_4 : Option Sl), sl = [some (.o 0), some (.o 1), s_2, s_3, s_4] ∧ st = [c, .lst (L.map .int)] ∧ Pen j c ∧ dpB (-1) L ∧ ds = rng (L.length : Nat) ds.length ∧ L.length + ds.length ≤ 20 ∧ j + 2 * ds.length ≤ n + 44) ?_ ?_ _ _ _ ⟨[], _, c2, _, _, _, rfl, rfl, p2, trivial, by rw [len_rng]; rfl, by rw [len_rng]; simp; omega, by rw [len_rng]; omega⟩
  · rintro sl st ⟨L, j, c, s_2, s_3, s_4, rfl, rfl, pk, h1, h2, h3, h4⟩
    simp only [List.length_nil, Nat.add_zero, Nat.mul_zero] at h3 h4
    nofun
    exact ⟨pk.cl, q _ (okR_of h1) (by rw [List.length_map]; exact h3) _ (pk.mono (by omega))⟩
  · rintro R B d ds sl st ih ⟨L, j, c, s_2, s_3, s_4, rfl, rfl, pk, h1, h2, h3, h4⟩
    rw [List.length_cons] at h2 h3 h4
    rw [rng_succ, List.cons.injEq] at h2
    obtain ⟨rfl, h2⟩ := h2
    obtain ⟨g1, g2⟩ := laI_ge L (-1) h1 (Int.le_refl _)
    subst_eqs
    rw [seq_mk]
    subst_eqs
    refine ⟨_, pk, by omega, ⟨by omega, by omega⟩, fun r3 a3 b3 c3 p3 => ?_⟩
    refine seq_cut (fun sl' st' => sl' = [some (Sl.o 0), some (Sl.o 1), some (Sl.d (PyData.int (L.length : Nat))), some (Sl.d (PyData.int r3)), some (Sl.d (PyData.int (laI (-1) L)))] ∧ st' = [c3, Ct.lst (L.map .int)]) (fun R2 hR2 => ?_) ?_
    · rcases List.eq_nil_or_concat L with rfl | ⟨a, x, rfl⟩
      · nofun
        exact hR2 _ _ ⟨rfl, rfl⟩
      · rw [List.concat_eq_append] at hR2 ⊢
        nofun
        rw [laI_snoc] at hR2
        rw [if_pos (by rw [List.length_append, List.length_singleton]; omega)]
        refine ⟨by rw [List.length_map]; rw [List.concat_eq_append] at h3; omega, .int x, ?_, hR2 _ _ ⟨rfl, rfl⟩⟩
        rw [atI_at (by rw [List.length_append, List.length_singleton]; omega) (by simp; omega), show ((a ++ [x]).length - 1 : Int).toNat = a.length by rw [List.length_append, List.length_singleton]; omega]
        simp
    · rintro sl' st' ⟨rfl, rfl⟩
      nofun
      refine ⟨_, p3, by omega, ⟨by omega, by omega⟩, fun r4 a4 b4 c4 p4 => ?_⟩
      obtain ⟨v, ev, hv1, hv2⟩ : ∃ v : Int, atI [PyData.int (laI (-1) L + 1), PyData.int (laI (-1) L + 1), PyData.int (max 0 (laI (-1) L)), PyData.int r4] r3 = some (.int v) ∧ 0 ≤ v ∧ v ≤ laI (-1) L + 1 := by
        obtain rfl | rfl | rfl | rfl : r3 = 0 ∨ r3 = 1 ∨ r3 = 2 ∨ r3 = 3 := by omega
        · exact ⟨_, rfl, by omega, by omega⟩
        · exact ⟨_, rfl, by omega, by omega⟩
        · exact ⟨_, rfl, by omega, by omega⟩
        · exact ⟨_, rfl, by omega, by omega⟩
      refine ⟨_, ev, by rw [List.length_map]; omega, ?_⟩
      rw [show L.map PyData.int ++ [PyData.int v] = (L ++ [v]).map PyData.int by simp]
      exact ih _ _ ⟨L ++ [v], _, c4, _, _, _, rfl, rfl, p4, dpB_snoc L (-1) h1 hv1 hv2, by rw [List.length_append, List.length_singleton]; exact h2, by rw [List.length_append, List.length_singleton]; omega, by omega⟩
theorem ok__law_blocks (T : Tx K mg f_parents f__law_pen f__law_draw f__law_parents f_blocks f__law_depths f__law_blocks f_law fd_parents fd__law_pen fd__law_draw fd__law_parents fd_blocks fd__law_depths fd__law_blocks fd_law) : FnD P w K mg base CX0 2 f__law_blocks fd__law_blocks ["_law_depths_here"] sp__law_blocks := by
  refine FnD.of0 T.d__law_blocks.F sc__law_blocks 0 _ (fun cdv A outer s H E Z0 hA hr hz => (dss_cons (ds_set 1 sc__law_blocks.nd (de_callF fo__law_parents (ok__law_parents T) hA (hr.mono (by decide)) rfl rfl T.d__law_parents.g T.d__law_parents.F.kp T.d__law_parents.b (da_cons (de_v 0 (pv 0)) da_nil)))
      (dss_cons (ds_set 2 sc__law_blocks.nd (de_lstO da_nil))
      (dss_cons (ds_for PassesOwn.never rfl (di_e (de_op d2_add op_addR (de_lst (da_cons de_non da_nil)) (de_listRg rfl rfl T.b_list (drg_1 rfl T.b_range (de_callB cd_len call_len rfl T.b_len (by decide +kernel) (da_cons (de_v 0 (pv 0)) da_nil)))))) (dg_name 3 sc__law_blocks.nd) (dss_cons (ds_set 4 sc__law_blocks.nd (de_callTy cd_tuple call_tuple_of rfl T.b_tuple (by decide +kernel) (da_cons (de_lc rfl sc__law_blocks.nd (di_rng1 rfl T.b_range (da_cons (de_callB cd_len call_len rfl T.b_len (by decide +kernel) (da_cons (de_v 0 (pv 0)) da_nil)) da_nil)) (blkOk_by (own := [("_law_at", 5)]) (N := N__law_blocks) (sc := defScope s__law_blocks) (by decide +kernel)) (by decide) (fun _ _ _ _ _ => (dg_name 5 sc__law_blocks.nd)) (fun _ _ _ _ _ => (dpt_one (dt_cmp d2_eq (op_eqD hr.units) (de_ixE (de_v 1 (pv 1)) (de_v 5 (pv 5))) (de_v 3 (pv 3)) (nomark _)))) (fun _ _ _ _ _ => (de_v 5 (pv 5)))) da_nil)))
      (dss_one (ds_if (dt_cmp d2_ne (op_neD hr.units) (de_v 4 (pv 4)) (de_tup da_nil) (nomark _)) (dss_one (ds_expr (de_bm md_append PySem.F.plainAttrs_list PySem.F.slot_list_append PySem.F.type_list_append mt_append (de_v 2 (pv 2)) (da_cons (de_v 4 (pv 4)) da_nil)))) dss_nil))))
      (dss_one (ds_ret (de_callB cd_sortedG (cr_sortedG (hr.units)) rfl T.b_sorted (by decide +kernel) (da_cons (de_v 2 (pv 2)) da_nil)))))))) ?_
  refine ho__law_blocks fun ds Qd ⟨⟨he, hc⟩, hn⟩ q => ?_
  try dsimp only at *
  rw [st__law_blocks]
  generalize hf : fnD ds = f at *
  generalize hm : ds.length = n at *
  subst he
  have ho : OkR (dpR f n) := ⟨by rw [hf, hm], by rw [hf, hm]; exact hc⟩
  rw [seq_mk]
  subst_eqs
  refine ⟨⟨ho, by rw [hm]; exact hn⟩, ?_⟩
  rw [hf, hm]
  rw [seq_mk]
  subst_eqs
  nofun
  rw [dpR_len, Int.sub_zero, Int.toNat_natCast]
  refine ⟨⟨by omega, by omega⟩, by unfold rng; rw [List.length_map, List.length_range]; omega, ?_⟩
  refine forL_ix (fun (ds : List PyData) (sl : Sls) (st : Sto) => ∃ (P R : List (Option Nat)) (s_3 s_4 s_5 : Option Sl), sl = [some (.d (.tuple (dpR f n))), some (.d (.tuple (paL f n))), some (.o 0), s_3, s_4, s_5] ∧ st = [.lst ((P.filterMap (ofP f n)).map fun p => tpL p.2)] ∧ P ++ R = allK n ∧ ds = R.map oND) ?_ ?_ _ _ _ ⟨[], allK n, _, _, _, rfl, rfl, rfl, allK_data n⟩
  · rintro sl st ⟨P, R, s_3, s_4, s_5, rfl, rfl, hp, hd⟩
    obtain rfl : R = [] := by cases R with | nil => rfl | cons _ _ => cases hd
    rw [List.append_nil] at hp
    subst hp
    rw [tgt_all hc]
    obtain ⟨s1, s2, s3⟩ := sort_blk (grpP_ne (f := f) n)
    nofun
    exact ⟨s1, s2, s3, q⟩
  · rintro R0 B d ds sl st ih ⟨P, R, s_3, s_4, s_5, rfl, rfl, hp, hd⟩
    cases R with
    | nil => cases hd
    | cons k R =>
    rw [List.map_cons, List.cons.injEq] at hd
    obtain ⟨rfl, hd⟩ := hd
    subst_eqs
    rw [seq_mk]
    subst_eqs
    rw [dpR_len]
    refine ⟨by omega, by omega, ?_⟩
    rw [Int.toNat_natCast]
    have hlen : (List.filterMap (ofP f n) P).length ≤ n := by
      have h1 := List.length_filterMap_le (ofP f n) P
      have h2 := congrArg List.length hp
      simp only [List.length_append, List.length_cons, allK, List.length_map, List.length_range] at h2
      omega
    refine lc_fil (sel2 f k) (by unfold rng; rw [List.length_map, List.length_range]; omega) (fun d m R2 S k1 k2 => ?_) ?_
    · obtain ⟨j, hj, rfl⟩ := rng_mem m
      nofun
      refine ⟨oND (parP f j), by rw [atI_at (by omega) (by rw [pa_len]; omega), Int.toNat_natCast, pa_at hj], ?_⟩
      subst_vars
      refine ⟨oND_sh _, oND_sh _, ?_⟩
      rw [oND_eqv]
      by_cases e : parP f j = k
      · have := k1 (.int (j : Nat)) (by unfold sel2; dsimp only; rw [Int.toNat_natCast, if_pos e])
        rw [if_pos (by simpa using e)]
        exact this
      · have := k2 (by unfold sel2; dsimp only; rw [Int.toNat_natCast, if_neg e])
        rw [if_neg (by simpa using e)]
        exact this
    · rw [sel2_rng]
      refine ⟨?_, by rfl, ?_⟩
      · rw [show nuN (blkP f n k) = (iL (blkP f n k)).map PyData.int by unfold nuN iL; rw [List.map_map]; rfl]
        exact sh_intsT
      · rw [tpL_nil]
        have hfm := fmP_snoc (ofP f n) P k
        by_cases e : blkP f n k = []
        · rw [if_neg (by simp [e])]
          have eo : ofP f n k = none := by unfold ofP; rw [if_pos e]
          rw [eo] at hfm
          nofun
          exact ih _ _ ⟨P ++ [k], R, _, _, _, rfl, by rw [hfm]; simp, by rw [List.append_assoc]; exact hp, hd⟩
        · rw [if_pos (by simp [e])]
          have eo : ofP f n k = some (k, blkP f n k) := by unfold ofP; rw [if_neg e]
          rw [eo] at hfm
          nofun
          refine ⟨by rw [List.length_map]; omega, ?_⟩
          exact ih _ _ ⟨P ++ [k], R, _, _, _, rfl, by rw [hfm]; simp; rfl, by rw [List.append_assoc]; exact hp, hd⟩
theorem ok_law (T : Tx K mg f_parents f__law_pen f__law_draw f__law_parents f_blocks f__law_depths f__law_blocks f_law fd_parents fd__law_pen fd__law_draw fd__law_parents fd_blocks fd__law_depths fd__law_blocks fd_law) : FnD P w K mg base CX0 3 f_law fd_law ["_law_script"] sp_law := by
  refine FnD.of0 T.d_law.F sc_law 0 _ (fun cdv A outer s H E Z0 hA hr hz => (dss_cons (ds_set 1 sc_law.nd (de_call (ok__law_pen T) hA (hr.mono (by decide)) (by first | exact lD fun _ => rfl | exact lP fun _ => rfl | exact l1) rfl T.d__law_pen.g T.d__law_pen.F.kp T.d__law_pen.b (da_cons (de_v 0 (pv 0)) da_nil)))
      (dss_cons (ds_for PassesOwn.never rfl (di_rng1 rfl T.b_range (da_cons de_int da_nil)) (dg_name 2 sc_law.nd) (dss_trim 0 hz (dss_cons (ds_set 3 sc_law.nd (de_callQ fo__law_depths (ok__law_depths T) hA (hr.mono (by decide)) rfl rfl T.d__law_depths.g T.d__law_depths.F.kp T.d__law_depths.b (da_cons (de_v 1 (pv 1)) da_nil)))
      (dss_cons (ds_if (DWs.dt (dw_or (dt_cmp d2_ne (op_neD hr.units) (de_callB cd_rep (call_reprR hA (hr.units)) rfl T.b_repr (by decide +kernel) (da_cons (de_callF fo_parents (ok_parents T) hA (hr.mono (by decide)) rfl rfl T.d_parents.g T.d_parents.F.kp T.d_parents.b (da_cons (de_v 3 (pv 3)) da_nil)) da_nil)) (de_callB cd_rep (call_reprR hA (hr.units)) rfl T.b_repr (by decide +kernel) (da_cons (de_callF fo__law_parents (ok__law_parents T) hA (hr.mono (by decide)) rfl rfl T.d__law_parents.g T.d__law_parents.F.kp T.d__law_parents.b (da_cons (de_v 3 (pv 3)) da_nil)) da_nil)) (nomark _)) (dw_or1 (dt_cmp d2_ne (op_neD hr.units) (de_callWF0 fo_parents (ok_parents T) hA (hr.mono (by decide)) rfl rfl T.d_parents.g T.d_parents.F.kp (kw_parents_0_levels T) (dk_cons (de_v 3 (pv 3)) dk_nil)) (de_callF fo__law_parents (ok__law_parents T) hA (hr.mono (by decide)) rfl rfl T.d__law_parents.g T.d__law_parents.F.kp T.d__law_parents.b (da_cons (de_v 3 (pv 3)) da_nil)) (nomark _))))) (dss_one (ds_ret de_bl)) dss_nil)
      (dss_cons (ds_set 4 sc_law.nd (de_callF fo__law_blocks (ok__law_blocks T) hA (hr.mono (by decide)) rfl rfl T.d__law_blocks.g T.d__law_blocks.F.kp T.d__law_blocks.b (da_cons (de_v 3 (pv 3)) da_nil)))
      (dss_cons (ds_for PassesOwn.never rfl (di_rng1 rfl T.b_range (da_cons de_int da_nil)) (dg_name 5 sc_law.nd) (dss_trim 0 hz (dss_cons (ds_set 6 sc_law.nd (de_callFO fo_blocks (okO_blocks T) hA (hr.mono (by decide)) rfl rfl T.d_blocks.g T.d_blocks.F.kp T.d_blocks.b (da_cons (de_v 3 (pv 3)) da_nil)))
      (dss_cons (ds_if (DWs.dt (dw_or (dt_not (dt_tru (de_callB cd_isi call_isi2 rfl T.b_isinstance (by decide +kernel) (da_cons (de_v 6 (pv 6)) (da_cons (de_ty (T := "list") rfl T.b_list (by decide +kernel)) da_nil))))) (dw_or1 (dt_cmp d2_ne (op_neD hr.units) (de_callB cd_rep (call_reprR hA (hr.units)) rfl T.b_repr (by decide +kernel) (da_cons (de_v 6 (pv 6)) da_nil)) (de_callB cd_rep (call_reprR hA (hr.units)) rfl T.b_repr (by decide +kernel) (da_cons (de_v 4 (pv 4)) da_nil)) (nomark _))))) (dss_one (ds_ret de_bl)) dss_nil)
      (dss_cons (ds_expr (de_bm0 md_reverse PySem.F.plainAttrs_list PySem.F.slot_list_reverse PySem.F.type_list_reverse mt_reverse (de_v 6 (pv 6))))
      (dss_one (ds_expr (de_bm md_append PySem.F.plainAttrs_list PySem.F.slot_list_append PySem.F.type_list_append mt_append (de_v 6 (pv 6)) (da_cons (de_tup da_nil) da_nil)))))))))
      (dss_one (ds_if (dt_cmp d2_ne (op_neD hr.units) (de_callB cd_sortedE cr_sortedE rfl T.b_sorted (by decide +kernel) (da_cons (de_callB cd_sumL (cr_sumL rfl) rfl T.b_sum (by decide +kernel) (da_cons (de_lc rfl sc_law.nd (di_e (de_callWF0 fo_blocks (ok_blocks T) hA (hr.mono (by decide)) rfl rfl T.d_blocks.g T.d_blocks.F.kp (kw_blocks_0_levels T) (dk_cons (de_v 3 (pv 3)) dk_nil))) (blkOk_by (own := [("_law_block", 7)]) (N := N_law) (sc := defScope s_law) (by decide +kernel)) (by decide) (fun _ _ _ _ _ => (dg_name 7 sc_law.nd)) (fun _ _ _ _ _ => dpt_nil) (fun _ _ _ _ _ => (de_callTy cd_listE (call_listE rfl) rfl T.b_list (by decide +kernel) (da_cons (de_v 7 (pv 7)) da_nil)))) (da_cons (de_lst da_nil) da_nil))) da_nil)) (de_listRg rfl rfl T.b_list (drg_1 rfl T.b_range (de_callB cd_len call_len rfl T.b_len (by decide +kernel) (da_cons (de_v 3 (pv 3)) da_nil)))) (nomark _)) (dss_one (ds_ret de_bl)) dss_nil))))))))
      (dss_one (ds_ret (de_and (de_cmp d2_eq (op_eqD hr.units) (de_callF fo_parents (ok_parents T) hA (hr.mono (by decide)) rfl rfl T.d_parents.g T.d_parents.F.kp T.d_parents.b (da_cons (de_tup (da_cons de_int (da_cons de_int (da_cons de_int (da_cons de_int da_nil))))) da_nil)) (de_tup (da_cons de_non (da_cons de_int (da_cons de_int (da_cons de_int da_nil))))) (nomark _)) (de_and1 (de_cmp d2_eq (op_eqD hr.units) (de_callF fo_blocks (ok_blocks T) hA (hr.mono (by decide)) rfl rfl T.d_blocks.g T.d_blocks.F.kp T.d_blocks.b (da_cons (de_tup da_nil) da_nil)) (de_lst da_nil) (nomark _))))))))) ?_
  refine e1 fun a cs Qd Ed => ?_
  rintro ⟨ns, rfl, rfl, q⟩
  refine ⟨rfl, ?_⟩
  rw [st_law]
  simp -implicitDefEqProofs only [↓Pz.wC_ap, ↓Pz.wVar_ap, ↓Pz.wOp_ap, ↓Pz.wTest_ap, ↓Pz.wNil_ap, ↓Pz.wCons_ap, ↓Pz.wCall_ap, ↓Pz.wCallW_ap, ↓Pz.wApp_ap, ↓Pz.wLst_ap, ↓Pz.wTup_ap, ↓Pz.wLstO_ap, ↓Pz.wNoPart_ap, ↓Pz.wPart_ap, ↓Pz.wSl_ap, ↓Pz.wAnd_ap, ↓Pz.wOr_ap, ↓Pz.wNot_ap, ↓Pz.wAndV_ap, ↓Pz.wOrV_ap, ↓Pz.wNotV_ap, ↓Pz.wIfE_ap, ↓Pz.wTru_ap, ↓Pz.wChain_ap, ↓Pz.wNeg_ap, ↓Pz.wAug_ap, ↓Pz.gNm_ap, ↓Pz.gNl_ap, ↓Pz.gCn_ap, ↓Pz.gTp_ap, ↓Pz.wAsg_ap, ↓Pz.wItE_ap, ↓Pz.wRng1_ap, ↓Pz.wRng2_ap, ↓Pz.wYes_ap, ↓Pz.wLc_ap, ↓Pz.wLcO_ap, ↓Pz.wBM_ap, ↓Pz.wSetIx_ap, ↓Pz.wFrz_ap, ↓Pz.wCallF_ap, ↓Pz.wCallQ_ap, ↓Pz.wCallWF_ap, ↓Pz.wRev_ap, ↓Pz.wRg1_ap, ↓Pz.wRg2_ap, ↓Pz.wListRg_ap, ↓Pz.wRng3_ap, ↓Pz.wEnum_ap, ↓Pz.wZip_ap, ↓Pz.wCallQO_ap, ↓Pz.wDPut_ap, ↓Pz.wPNil_ap, ↓Pz.wPCons_ap, ↓Pz.wDisp_ap, ↓Pz.wDNew_ap, ↓Pz.wDNil_ap, ↓Pz.wEnumX_ap, ↓Pz.wCallE_ap, ↓Pz.wSlO_ap, ↓Pz.wEnumY_ap, ↓Pz.wDGet2_ap, ↓Pz.wMaxDf_ap, ↓Pz.wCallFO_ap, ↓Pz.wRevY_ap, ↓Pz.wFrzX_ap, ↓Pz.wSwp_ap, ↓Pz.wCallX_ap, ↓Pz.wCallXO_ap, ↓Pz.wCallWX_ap, ↓Pz.wRaise1_ap, ↓Pz.wRaise0_ap, ↓Pz.wTry_ap, ↓Pz.wIsE_ap, ↓Pz.wXf_ap, ↓Pz.wDispD_ap, ↓Pz.wSortLen_ap, ↓Pz.wGGet_ap, ↓Pz.wMinDf_ap, ↓Pz.wPar_ap, ↓Pz.wLam_ap, ↓Pz.wAct_ap, ↓Pz.wRep_ap, ↓Pz.wZipM_ap, ↓Pz.wZipN_ap, ↓Pz.wLenSet_ap, ↓Pz.wBor_ap, ↓Pz.gTpL_ap, ↓Pz.wTupRg_ap, ↓Pz.wRevS_ap, ↓Pz.wFmt_ap, ↓Pz.wJoined_ap, ↓Pz.wAsgS_ap, ↓Pz.wPar3_ap, ↓Pz.wDc_ap, ↓Pz.wDcT_ap, ↓Pz.wDGet3_ap, ↓Pz.wListV_ap, ↓Pz.wSumV_ap, ↓Pz.wDIn_ap, ↓Pz.wTGet2_ap, ↓Pz.wTPut_ap, ↓Pz.wDAug_ap, ↓Pz.wFrzL_ap, ↓Pz.wItV_ap, ↓Pz.wItI_ap, ↓Pz.wItK_ap, ↓Pz.wDisp1_ap, ↓Pz.wBorD_ap, ↓Pz.wDNewT_ap, ↓Pz.wCallFD_ap, ↓Pz.wDNew_ap, ↓Pz.wItC_ap, ↓Pz.wCallXE_ap, ↓Pz.wTSetd_ap, ↓Pz.wListRgO_ap, ↓Pz.wTryC_ap, ↓Pz.wMinLen_ap, ↓Pz.wDNewN_ap, ↓Pz.wNSetd_ap, ↓Pz.wFrzN_ap, Pz.setAll, ↓Pz.wClose_ap, ↓Pz.wSetIxO_ap, ↓Pz.oIxS_ap, ↓Pz.wRaise3_ap, ↓Pz.oMulT_ap, Pz.dkX, Pz.unKD_kdD, Option.isSome_some, ↓Pz.wOrX_apS, ↓Pz.wAndX_apS, ↓Pz.orP_str, Pz.orP_some, Pz.orP_none, ↓oTGet, ↓oLtS, ↓oLtT, ↓fListKy, ↓fSortKy, ↓fLenD_o, ↓Pz.aFD, Pz.unD_K, Pz.unD_T, Pz.kyS_t, Pz.keysL_nil, Pz.keysL_ci, Pz.keysL_cs, ↓Pz.dtAt_o, Pz.dtAt_L, ↓Pz.dkAny_o, Pz.dkAny_D, Pz.dkAny_L, ↓Pz.dvAt_o, Pz.dvAt_D, Pz.dvAt_L, Pz.dvAt_T, ↓Pz.dkyS_o, Pz.dkyS_D, Pz.dkyS_L, Pz.dkyS_T, ↓Pz.dinS_o, Pz.dinS_D, Pz.dinS_L, Pz.dinS_T, Pz.lkP_K, Pz.lkP_T, Pz.lkV_K, Pz.lkV_T, Pz.lkV_N, ↓Pz.dnAt_o, Pz.oK_n, Pz.oK_i, ↓ret1_dT, cl_dt, Pz.lkOf_K, Pz.lkOf_T, Pz.xor_f, Pz.xor_t, Pz.hasD_int, Option.bind, Option.bind_some, List.set, ↓seq_mk, ↓wTrim_mk, trimS, List.take_succ_cons, List.take_zero, Nat.reduceLT, ↓nx_mk, ↓set_mk, ↓if_mk, nthS, ↓oEq, ↓oNe, vw, ↓oAdd, ↓oSub, ↓oIadd, ↓oDGet, keyOf_str, keyOf_int, keyS_str, keyS_int, ↓dkAt_o, valE_cells, valE_at, valE_left, putE_at, putE_left, mergeE, mergeD1, kvD1, keyD_s, keyD_i, ret1_dE, cl_dk, ↓fIsi, ↓fDivmod, ↓fStr, Pz.okT_int, Pz.is_int_none, Pz.is_int_bool, Pz.is_int_int, Pz.is_int_str, Pz.is_int_list, Pz.is_int_tuple, Pz.is_int_dict, Pz.okT_bool, Pz.is_bool_none, Pz.is_bool_bool, Pz.is_bool_int, Pz.is_bool_str, Pz.is_bool_list, Pz.is_bool_tuple, Pz.is_bool_dict, Pz.okT_str, Pz.is_str_none, Pz.is_str_bool, Pz.is_str_int, Pz.is_str_str, Pz.is_str_list, Pz.is_str_tuple, Pz.is_str_dict, Pz.okT_tuple, Pz.is_tuple_none, Pz.is_tuple_bool, Pz.is_tuple_int, Pz.is_tuple_str, Pz.is_tuple_list, Pz.is_tuple_tuple, Pz.is_tuple_dict, Pz.okT_list, Pz.is_list_none, Pz.is_list_bool, Pz.is_list_int, Pz.is_list_str, Pz.is_list_list, Pz.is_list_tuple, Pz.is_list_dict, Pz.is_dict_none, Pz.is_dict_bool, Pz.is_dict_int, Pz.is_dict_str, Pz.is_dict_list, Pz.is_dict_tuple, Pz.is_dict_dict, ↓oFdiv, ↓oMod, ↓oMul, ↓oPow, ↓oBool, ↓oII, ↓oIsN, ↓oNotN, ↓oIn, ↓oInX, ↓oInQ, ↓oInT, ↓oIsB, ↓oIsBN, ↓oNotB, noneS, ↓ret_mk, ↓retN_mk, ↓bk_mk, ↓ct_mk, ↓expr_mk, ↓for_mk, truD, ↓oIxE, ↓mPopAt, ↓mIndex, ↓mInsert, ↓fIntS, ↓fStrN, ↓Pz.wJs_cons, ↓Pz.wJs_nil, at0, at1, at2, at3, ix10, ix20, ix21, ix30, ix31, ix32, Pz.len1, Pz.len2, Pz.len3, List.length_nil, List.length_cons, sh_int, sh_bl, sh_non, Int.reduceEq, reduceCtorEq, decide_true, decide_false, sh_nil, eqv_nn, eqv_nilL, List.isEmpty_map, sh_lit, List.flatten_replicate_singleton, List.length_replicate, eqv_int, Nat.zero_le, szL, Nat.reduceLeDiff, Nat.reduceAdd, ↓ret1_d, ↓ret1_o0, ↓ret1_o1, ↓ret1_o2, ↓ret0_o0, ↓ret_d, cl_lst, true_and, and_true, decide_eq_true_eq, ↓oSl, ↓oSlO, ↓fLen, ↓fAbs, ↓fInt, ↓fMaxE, ↓fMinE, ↓fSumE, ↓Pz.fSumL, ↓fAll, ↓fAny, ↓fList, ↓fListO, ↓fListE, ↓fListEO, ↓fTuple, ↓fSortedE, ↓fSortedS, ↓fSortedG, ↓Pz.fSortedGO, ↓fRep, ↓fRepX, ↓fRepZ, ↓fRepW, ↓fBool, vwJ_l, vwJ_t, vwS_l, vwS_t, vwB, dsOf, tyD, ↓mAppend, ↓mExtend, ↓mPop, ↓mReverse, ↓mSplit, ↓mSplitO, ↓mStrip, ↓mLstrip, ↓mRstrip, ↓mStr2, ↓mPart, ↓mJoinE, frzS, frzX, ↓excOf_o, Pz.excOf_d, ↓oDGetX, List.map_cons, List.map_nil, List.getElem?_cons_zero, List.getElem?_cons_succ, List.cons_append, List.nil_append, Bool.false_eq_true, Bool.true_eq_false, ↓reduceIte, p10_3, p10_6, p10_7, p10_9, p10_12, Option.map, ↓aQ, ↓aQO, ↓aFO, borS, atomD, ↓aXO, ↓oAddO, ↓oMulO, Option.some.injEq, exists_eq_left', exists_and_left, datO, datQ_d, ↓mCount, ↓mCountS, Bool.not_true, Bool.not_false, ↓F_parents, ↓F_blocks, ↓F__law_draw, ↓F__law_depths, ↓F__law_parents, ↓F__law_blocks, g_kw_blocks_0_levels, g_kw_parents_0_levels]
  refine pen_call fun c0 p0 => ?_
  nofun
  repeat with_reducible refine And.intro (by first | omega | decide | exact cpow (by omega) (by omega) (by omega) (by omega) | exact .inl (small (by omega) (by omega)) | exact .inr (small (by omega) (by omega)) | exact cdw (by omega) (by omega) | (simp only [Pz.len_mul, len_sp1, len_tab1, len_em, Pz.len_add, List.length_cons, List.length_nil, List.length_map, List.length_append] at *; omega) | (simp only [Pz.len_mul, len_sp1, len_tab1, len_st2, len_em, Pz.len_add]; omega)) ?_
  refine forL_ix (fun (ds : List PyData) (sl : Sls) (st : Sto) => ∃ (j : Nat) (c : Ct) (rest : Sto) (s_2 s_3 s_4 s_5 s_6 s_7 : Option Sl), sl = [some (.f ns), some (.o 0), s_2, s_3, s_4, s_5, s_6, s_7] ∧ st = c :: rest ∧ Pen j c ∧ j + 60 * ds.length ≤ 3700) ?_ ?_ _ _ _ ⟨_, c0, [], _, _, _, _, _, _, rfl, rfl, p0, by rw [len_rng]; decide⟩
  · rintro sl st ⟨j, c, rest, s_2, s_3, s_4, s_5, s_6, s_7, rfl, rfl, pk, hj⟩
    nofun
    refine ⟨okR_lit, ?_⟩
    rw [pa_lit]
    refine ⟨by rfl, by rfl, ?_⟩
    rw [if_pos (by decide +kernel)]
    refine ⟨okR_nil, ?_⟩
    rw [ds_nil]
    exact ⟨by rfl, q⟩
  · rintro R B d ds sl st ih ⟨j, c, rest, s_2, s_3, s_4, s_5, s_6, s_7, rfl, rfl, pk, hj⟩
    rw [List.length_cons] at hj
    simp only [Pz.gNm_ap, List.set]
    refine ⟨1, by decide, fun z m => by cases List.mem_singleton.mp m; exact pk.cl, ?_⟩
    rw [show (c :: rest).take 1 = [c] from rfl]
    rw [seq_mk]
    subst_eqs
    refine ⟨_, pk, by omega, fun dl ho hn c1 p1 => ?_⟩
    obtain ⟨he, hc⟩ := ho
    have hok : OkR dl := ⟨he, hc⟩
    have hrp := pa_rep (f := fnD dl) (n := dl.length) (by omega)
    have hpl := pa_plain (f := fnD dl) (n := dl.length)
    rw [seq_mk]
    subst_eqs
    have h1000 : dl.length ≤ 1000 := by omega
    have hro : RepOk (.tuple (paL (fnD dl) dl.length)) := hrp.r (by decide) (by decide)
    have hsp : SeqAt.shaped (.tuple (paL (fnD dl) dl.length)) = true := hrp.shp (by decide)
    refine ⟨⟨hok, h1000⟩, hro, ⟨hok, h1000⟩, hro, hro.sh, hro.sh, ?_⟩
    rw [if_neg (by rw [eqv_self_str]; decide)]
    refine ⟨⟨hok, h1000⟩, ⟨hok, h1000⟩, hsp, hsp, ?_⟩
    rw [if_neg (by rw [eqv_same hpl]; decide)]
    have hbo : BlkOk dl.length (dsort ((grpP (fnD dl) dl.length).map fun p => tpL p.2)) := blk_ok
    have hbr : RepP 100000 2 (.list (dsort ((grpP (fnD dl) dl.length).map fun p => tpL p.2))) := blk_rep hbo hn
    have hbk : RepOk (.list (dsort ((grpP (fnD dl) dl.length).map fun p => tpL p.2))) := hbr.r (by decide) (by decide)
    rw [seq_mk]
    subst_eqs
    refine ⟨⟨hok, h1000⟩, ?_⟩
    generalize hbl : dsort ((grpP (fnD dl) dl.length).map fun p => tpL p.2) = bl at hbo hbr hbk ⊢
    rw [seq_mk]
    subst_eqs
    refine ⟨by decide, by decide, ?_⟩
    refine forL_ix (fun (ds : List PyData) (sl : Sls) (st : Sto) => ∃ (rest2 : Sto) (s_2 s_5 s_6 s_7 : Option Sl), sl = [some (.f ns), some (.o 0), s_2, some (.d (.tuple dl)), some (.d (.list bl)), s_5, s_6, s_7] ∧ st = c1 :: rest2 ∧ True) ?_ ?_ _ _ _ ⟨[], _, _, _, _, rfl, rfl, trivial⟩
    · rintro sl st ⟨rest2, s_2, s_5, s_6, s_7, rfl, rfl, _⟩
      nofun
      refine ⟨⟨hok, h1000⟩, ?_⟩
      rw [hbl]
      obtain ⟨bs, e1, e2, e3, e4⟩ := blk_lists hbo
      refine lc_map tupLs (by omega) (fun d m R3 hR3 => ?_) ?_
      · obtain ⟨b, rfl⟩ := e4 d m
        rw [tpL]
        nofun
        exact hR3
      · nofun
        have hl : (bs.map nuN).flatten.length = dl.length := by
          rw [nuN_flat, List.length_map]
          unfold iL
          rw [List.length_map, e2.length_eq, List.length_range]
        refine ⟨bs.map nuN, e1, by omega, iL bs.flatten, by rw [nuN_flat]; exact asInts_map _, ⟨by omega, by omega⟩, ?_⟩
        rw [Int.sub_zero, Int.toNat_natCast, blk_sorted e2]
        have hs : SeqAt.shaped (.list (rng 0 dl.length)) = true := by
          rw [← blk_sorted e2]
          exact sh_ints
        refine ⟨hs, hs, ?_⟩
        rw [if_neg (by rw [eqv_same rng_plain]; decide)]
        exact ih _ _ ⟨_, c1, rest2, _, _, _, _, _, _, rfl, rfl, p1, by omega⟩
    · rintro R2 B2 d2 ds2 sl st ih2 ⟨rest2, s_2, s_5, s_6, s_7, rfl, rfl, _⟩
      simp only [Pz.gNm_ap, List.set]
      refine ⟨1, by decide, fun z m => by cases List.mem_singleton.mp m; exact p1.cl, ?_⟩
      rw [show (c1 :: rest2).take 1 = [c1] from rfl]
      rw [seq_mk]
      subst_eqs
      refine ⟨⟨hok, h1000⟩, ?_⟩
      rw [hbl]
      obtain ⟨_, _, _, e3, _⟩ := blk_lists hbo
      rw [seq_mk]
      subst_eqs
      refine ⟨hbk, hbk, hbk.sh, hbk.sh, ?_⟩
      rw [if_neg (by rw [eqv_self_str]; decide)]
      nofun
      refine ⟨by rw [List.length_reverse]; omega, ?_⟩
      exact ih2 _ _ ⟨_, _, _, _, _, rfl, rfl, trivial⟩
theorem all_mk {l : PySem.W.OpenLaw} {w : World} {K : Frag} {h : Heap} {mg : Str → Option Value} {fa f_parents f__law_pen f__law_draw f__law_parents f_blocks f__law_depths f__law_blocks f_law : Addr} (X : K.In h) (G : h.Ns mainGlobals mg) (hfa : mg "law" = some (.ref fa))
    {od_parents an_parents : Option Addr} {sl_parents : Array (Option Value)} {oc_parents kV_parents dc_parents pm_parents cd_parents ct_parents : Value}
    {od__law_pen an__law_pen : Option Addr} {sl__law_pen : Array (Option Value)} {oc__law_pen kV__law_pen dc__law_pen pm__law_pen cd__law_pen ct__law_pen : Value}
    {od__law_draw an__law_draw : Option Addr} {sl__law_draw : Array (Option Value)} {oc__law_draw kV__law_draw dc__law_draw pm__law_draw cd__law_draw ct__law_draw : Value}
    {od__law_parents an__law_parents : Option Addr} {sl__law_parents : Array (Option Value)} {oc__law_parents kV__law_parents dc__law_parents pm__law_parents cd__law_parents ct__law_parents : Value}
    {od_blocks an_blocks : Option Addr} {sl_blocks : Array (Option Value)} {oc_blocks kV_blocks dc_blocks pm_blocks cd_blocks ct_blocks : Value}
    {od__law_depths an__law_depths : Option Addr} {sl__law_depths : Array (Option Value)} {oc__law_depths kV__law_depths dc__law_depths pm__law_depths cd__law_depths ct__law_depths : Value}
    {od__law_blocks an__law_blocks : Option Addr} {sl__law_blocks : Array (Option Value)} {oc__law_blocks kV__law_blocks dc__law_blocks pm__law_blocks cd__law_blocks ct__law_blocks : Value}
    {od_law an_law : Option Addr} {sl_law : Array (Option Value)} {oc_law kV_law dc_law pm_law cd_law ct_law : Value}
    (a_parents : PySem.W.nsIn K mainGlobals "parents" = some (some (.ref f_parents))) (l_parents : K.lookup f_parents = some ⟨oc_parents, od_parents, .func (PySem.W.fnOf "parents" "parents" (defArgs s_parents) (defBody s_parents) (defScope s_parents) .none kV_parents dc_parents pm_parents an_parents cd_parents ct_parents), sl_parents⟩) (c_parents : PySem.W.codeIn K cd_parents "parents" = true) (k_parents : PySem.W.keepIn K (.ref f_parents) = true)
    (a__law_pen : PySem.W.nsIn K mainGlobals "_law_pen" = some (some (.ref f__law_pen))) (l__law_pen : K.lookup f__law_pen = some ⟨oc__law_pen, od__law_pen, .func (PySem.W.fnOf "_law_pen" "_law_pen" (defArgs s__law_pen) (defBody s__law_pen) (defScope s__law_pen) .none kV__law_pen dc__law_pen pm__law_pen an__law_pen cd__law_pen ct__law_pen), sl__law_pen⟩) (c__law_pen : PySem.W.codeIn K cd__law_pen "_law_pen" = true) (k__law_pen : PySem.W.keepIn K (.ref f__law_pen) = true)
    (a__law_draw : PySem.W.nsIn K mainGlobals "_law_draw" = some (some (.ref f__law_draw))) (l__law_draw : K.lookup f__law_draw = some ⟨oc__law_draw, od__law_draw, .func (PySem.W.fnOf "_law_draw" "_law_draw" (defArgs s__law_draw) (defBody s__law_draw) (defScope s__law_draw) .none kV__law_draw dc__law_draw pm__law_draw an__law_draw cd__law_draw ct__law_draw), sl__law_draw⟩) (c__law_draw : PySem.W.codeIn K cd__law_draw "_law_draw" = true) (k__law_draw : PySem.W.keepIn K (.ref f__law_draw) = true)
    (a__law_parents : PySem.W.nsIn K mainGlobals "_law_parents" = some (some (.ref f__law_parents))) (l__law_parents : K.lookup f__law_parents = some ⟨oc__law_parents, od__law_parents, .func (PySem.W.fnOf "_law_parents" "_law_parents" (defArgs s__law_parents) (defBody s__law_parents) (defScope s__law_parents) .none kV__law_parents dc__law_parents pm__law_parents an__law_parents cd__law_parents ct__law_parents), sl__law_parents⟩) (c__law_parents : PySem.W.codeIn K cd__law_parents "_law_parents" = true) (k__law_parents : PySem.W.keepIn K (.ref f__law_parents) = true)
    (a_blocks : PySem.W.nsIn K mainGlobals "blocks" = some (some (.ref f_blocks))) (l_blocks : K.lookup f_blocks = some ⟨oc_blocks, od_blocks, .func (PySem.W.fnOf "blocks" "blocks" (defArgs s_blocks) (defBody s_blocks) (defScope s_blocks) .none kV_blocks dc_blocks pm_blocks an_blocks cd_blocks ct_blocks), sl_blocks⟩) (c_blocks : PySem.W.codeIn K cd_blocks "blocks" = true) (k_blocks : PySem.W.keepIn K (.ref f_blocks) = true)
    (a__law_depths : PySem.W.nsIn K mainGlobals "_law_depths" = some (some (.ref f__law_depths))) (l__law_depths : K.lookup f__law_depths = some ⟨oc__law_depths, od__law_depths, .func (PySem.W.fnOf "_law_depths" "_law_depths" (defArgs s__law_depths) (defBody s__law_depths) (defScope s__law_depths) .none kV__law_depths dc__law_depths pm__law_depths an__law_depths cd__law_depths ct__law_depths), sl__law_depths⟩) (c__law_depths : PySem.W.codeIn K cd__law_depths "_law_depths" = true) (k__law_depths : PySem.W.keepIn K (.ref f__law_depths) = true)
    (a__law_blocks : PySem.W.nsIn K mainGlobals "_law_blocks" = some (some (.ref f__law_blocks))) (l__law_blocks : K.lookup f__law_blocks = some ⟨oc__law_blocks, od__law_blocks, .func (PySem.W.fnOf "_law_blocks" "_law_blocks" (defArgs s__law_blocks) (defBody s__law_blocks) (defScope s__law_blocks) .none kV__law_blocks dc__law_blocks pm__law_blocks an__law_blocks cd__law_blocks ct__law_blocks), sl__law_blocks⟩) (c__law_blocks : PySem.W.codeIn K cd__law_blocks "_law_blocks" = true) (k__law_blocks : PySem.W.keepIn K (.ref f__law_blocks) = true)
    (a_law : PySem.W.nsIn K mainGlobals "law" = some (some (.ref f_law))) (l_law : K.lookup f_law = some ⟨oc_law, od_law, .func (PySem.W.fnOf "law" "law" (defArgs s_law) (defBody s_law) (defScope s_law) .none kV_law dc_law pm_law an_law cd_law ct_law), sl_law⟩) (c_law : PySem.W.codeIn K cd_law "law" = true) (k_law : PySem.W.keepIn K (.ref f_law) = true)
    (b_abs : PySem.W.nsIn K mainGlobals "abs" = some none)
    (b_enumerate : PySem.W.nsIn K mainGlobals "enumerate" = some none)
    (b_int : PySem.W.nsIn K mainGlobals "int" = some none)
    (b_isinstance : PySem.W.nsIn K mainGlobals "isinstance" = some none)
    (b_len : PySem.W.nsIn K mainGlobals "len" = some none)
    (b_list : PySem.W.nsIn K mainGlobals "list" = some none)
    (b_max : PySem.W.nsIn K mainGlobals "max" = some none)
    (b_range : PySem.W.nsIn K mainGlobals "range" = some none)
    (b_repr : PySem.W.nsIn K mainGlobals "repr" = some none)
    (b_sorted : PySem.W.nsIn K mainGlobals "sorted" = some none)
    (b_sum : PySem.W.nsIn K mainGlobals "sum" = some none)
    (b_tuple : PySem.W.nsIn K mainGlobals "tuple" = some none)
    : ∃ fd : FuncData, (∀ (s : Shared) (v : Value), BindsTo s fd ⟨[v], []⟩ [("_law_script", v)]) ∧ ∀ base : Heap, K.In base → base.Ns mainGlobals mg → FnD l.prog w K mg base CX0 3 fa fd ["_law_script"] sp_law := by
  have e := hfa.symm.trans (PySem.W.mg_of X G a_law)
  cases e
  have F_parents := fun_mk (st := s_parents) l_parents c_parents k_parents
  have B_parents := F_parents.binds (ps := ["levels"]) fun _ _ _ _ _ _ us hl => match us, hl with | [_], _ => rfl
  have F__law_pen := fun_mk (st := s__law_pen) l__law_pen c__law_pen k__law_pen
  have B__law_pen := F__law_pen.binds (ps := ["_law_script"]) fun _ _ _ _ _ _ us hl => match us, hl with | [_], _ => rfl
  have F__law_draw := fun_mk (st := s__law_draw) l__law_draw c__law_draw k__law_draw
  have B__law_draw := F__law_draw.binds (ps := ["_law_pen_here", "_law_bound"]) fun _ _ _ _ _ _ us hl => match us, hl with | [_, _], _ => rfl
  have F__law_parents := fun_mk (st := s__law_parents) l__law_parents c__law_parents k__law_parents
  have B__law_parents := F__law_parents.binds (ps := ["_law_depths_here"]) fun _ _ _ _ _ _ us hl => match us, hl with | [_], _ => rfl
  have F_blocks := fun_mk (st := s_blocks) l_blocks c_blocks k_blocks
  have B_blocks := F_blocks.binds (ps := ["levels"]) fun _ _ _ _ _ _ us hl => match us, hl with | [_], _ => rfl
  have F__law_depths := fun_mk (st := s__law_depths) l__law_depths c__law_depths k__law_depths
  have B__law_depths := F__law_depths.binds (ps := ["_law_pen_here"]) fun _ _ _ _ _ _ us hl => match us, hl with | [_], _ => rfl
  have F__law_blocks := fun_mk (st := s__law_blocks) l__law_blocks c__law_blocks k__law_blocks
  have B__law_blocks := F__law_blocks.binds (ps := ["_law_depths_here"]) fun _ _ _ _ _ _ us hl => match us, hl with | [_], _ => rfl
  have F_law := fun_mk (st := s_law) l_law c_law k_law
  have B_law := F_law.binds (ps := ["_law_script"]) fun _ _ _ _ _ _ us hl => match us, hl with | [_], _ => rfl
  exact ⟨_, fun s v => .of_eq rfl, fun base _ _ => ok_law ⟨⟨F_parents, PySem.W.mg_of X G a_parents, B_parents⟩, ⟨F__law_pen, PySem.W.mg_of X G a__law_pen, B__law_pen⟩, ⟨F__law_draw, PySem.W.mg_of X G a__law_draw, B__law_draw⟩, ⟨F__law_parents, PySem.W.mg_of X G a__law_parents, B__law_parents⟩, ⟨F_blocks, PySem.W.mg_of X G a_blocks, B_blocks⟩, ⟨F__law_depths, PySem.W.mg_of X G a__law_depths, B__law_depths⟩, ⟨F__law_blocks, PySem.W.mg_of X G a__law_blocks, B__law_blocks⟩, ⟨F_law, PySem.W.mg_of X G a_law, B_law⟩, PySem.W.mg_none_of X G b_abs, PySem.W.mg_none_of X G b_enumerate, PySem.W.mg_none_of X G b_int, PySem.W.mg_none_of X G b_isinstance, PySem.W.mg_none_of X G b_len, PySem.W.mg_none_of X G b_list, PySem.W.mg_none_of X G b_max, PySem.W.mg_none_of X G b_range, PySem.W.mg_none_of X G b_repr, PySem.W.mg_none_of X G b_sorted, PySem.W.mg_none_of X G b_sum, PySem.W.mg_none_of X G b_tuple⟩⟩
end Lw
open PySem PySem.W PyProof.Rows
local instance : Pz.PenC := Pz.penL []
set_option maxHeartbeats 0 in
theorem PySem.Challenge.cw_tabprism_k11_parents_and_blocks_holds : PySem.Challenge.rw_tabprism_k11_parents_and_blocks.Holds := by
  w_on; o_law; k_head; (case hw => w_witness2)
  k_fill
  refine Pz.walkG (l := PySem.Challenge.rw_tabprism_k11_parents_and_blocks) (n := 63) (k := 3) (x := "_law_script") (CX := fun _ => L2.CX0) (law := Lw.sp_law) rfl (by decide) rfl ⟨rfl, by decide, by decide⟩ (fun w h Y => PySem.W.kIn_of Y) ?F Lw.sp_ok (fun _ _ _ _ _ h => h)
  case F =>
    intro w mg fa h KX G hmg
    refine' Lw.all_mk KX G hmg ?a_parents ?l_parents ?c_parents ?k_parents ?a__law_pen ?l__law_pen ?c__law_pen ?k__law_pen ?a__law_draw ?l__law_draw ?c__law_draw ?k__law_draw ?a__law_parents ?l__law_parents ?c__law_parents ?k__law_parents ?a_blocks ?l_blocks ?c_blocks ?k_blocks ?a__law_depths ?l__law_depths ?c__law_depths ?k__law_depths ?a__law_blocks ?l__law_blocks ?c__law_blocks ?k__law_blocks ?a_law ?l_law ?c_law ?k_law ?b_abs ?b_enumerate ?b_int ?b_isinstance ?b_len ?b_list ?b_max ?b_range ?b_repr ?b_sorted ?b_sum ?b_tuple
    (case a_parents => k_is); (case l_parents => k_is); (case c_parents => k_is); (case k_parents => k_is); (case a__law_pen => k_is); (case l__law_pen => k_is); (case c__law_pen => k_is); (case k__law_pen => k_is); (case a__law_draw => k_is); (case l__law_draw => k_is); (case c__law_draw => k_is); (case k__law_draw => k_is); (case a__law_parents => k_is); (case l__law_parents => k_is); (case c__law_parents => k_is); (case k__law_parents => k_is); (case a_blocks => k_is); (case l_blocks => k_is); (case c_blocks => k_is); (case k_blocks => k_is); (case a__law_depths => k_is); (case l__law_depths => k_is); (case c__law_depths => k_is); (case k__law_depths => k_is); (case a__law_blocks => k_is); (case l__law_blocks => k_is); (case c__law_blocks => k_is); (case k__law_blocks => k_is); (case a_law => k_is); (case l_law => k_is); (case c_law => k_is); (case k_law => k_is); (case b_abs => k_is); (case b_enumerate => k_is); (case b_int => k_is); (case b_isinstance => k_is); (case b_len => k_is); (case b_list => k_is); (case b_max => k_is); (case b_range => k_is); (case b_repr => k_is); (case b_sorted => k_is); (case b_sum => k_is); (case b_tuple => k_is)
