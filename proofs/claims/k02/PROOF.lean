import PyProof.Rows.All
import Wide.All
import OpenK.AllK
import Wide.FinOn
import PySem.Challenge.RW_bitneed_k02_refusals_by_hand
import HandS.ForMost
import HandS.ForExc
import HandS.IsInst
import HandS.Wide
import HandS.TupAny
import HandS.Style
import HandS.Defaults
import HandS.HeadEnd
import HandS.WordsExc
import HandS.CallSlots
import HandS.EndBits
import PyProof.ReprRoads
import KE.DataMinMax
import KE.KStateDown
import HandS.Head0
import HandS.Head1
import HandS.Head2
import HandS.HeadHook1
import HandS.HeadHook2
import HandS.Text
import HandS.WideBits
import PyProof.StrLawsRepr
import PyProof.Rows.StrBin
import HandS.More
import HandS.DictComp
import KE.DataEq
import HandS.NoneIn
import HandS.Set
import HandS.SetFor
import HandS.Strs
import HandS.ExcOwn
import HandS.ExcValue
import PyProof.ZipIter
import PyProof.EnumMake
import PyProof.EnumFor
import KE.KDictZip
import HandS.Zip0
import HandS.Iter
import HandS.Zip
import HandS.ExcInit
import HandS.HeadHook3
import KE.KIsAll
import KE.KBits
import HandS.TupMul
import HandS.CallLocal
import HandS.ListItems
import KE.GoesMore
import KE.KItemsList
import KE.KDictItemsList
import KE.SortData
import PyProof.Rows.StrMeet
import PyProof.NeKinds
import PyProof.FactsAll.subtypes_6
import KE.KEqDict
import HandS.List
import KE.GoesEnum
import KE.KDictPairs
import HandS.DictTup
import HandS.ExcField
import KE.KExcIs
import HandS.RaiseMore
set_option Elab.async false
set_option linter.all false
set_option maxRecDepth 100000
set_option maxHeartbeats 2000000
namespace DL
open PySem PySem.Spec L2
open PyProof.Rows hiding St
/-- the built-in kinds -/
inductive Ty where
  | non | bl | int | str | tup | lst | dic | ve
def Ty.nm : Ty → String
  | .non => "NoneType" | .bl => "bool" | .int => "int" | .str => "str" | .tup => "tuple" | .lst => "list" | .dic => "dict" | .ve => "ValueError"
/-- a value by what it holds; pt: a tuple known to have no dict; o a: an object that may change, at a -/
inductive R where
  | non | bl (b : Bool) | int (i : Int) | str (x : Str) | tup (rs : List R) | lst (rs : List R) | o (a : Addr) | ty (n : Ty) | scr (ns : List Int) | pt (rs : List R)
  | ex (cls : Value) (ns : List Str) (rs : List R)
/-- j: what stands for ever; f: what must be kept, and is not looked at -/
structure Jp where
  j : Hp
  f : Hp
def Jp.put (J : Jp) (p : Addr) (o : HO) : Jp := ⟨upd J.j p o, J.f⟩
/-- a list that stands: tracked, or the module's own, to the sign -/
def Ls (K : PySem.W.Frag) (J : Hp) (a : Addr) (vs : List V) : Prop :=
  Rd J a (.lst vs) ∨ ∃ its : List Value, K.lookup a = some { cls := .type "list", data := .seq its.toArray } ∧ its.length ≤ sizeLine ∧ Vals vs its
theorem Ls.sq {K : PySem.W.Frag} {J : Hp} {a : Addr} {vs : List V} (h : Ls K J a vs) : SqL K J a vs := by
  rcases h with h | ⟨its, h1, h2, h3⟩
  · exact .inl h
  · exact .inr ⟨_, its.toArray, _, h1, rfl, rfl, rfl, by simpa using h2, by simpa using h3⟩
/-- at a: an exception of the class cls, its dict d -/
abbrev exk (a : Addr) (cls : Value) (d : Option Addr) : HO := .ext fun h => ∃ (oe : Obj) (vs : Array Value), h.get? a = some oe ∧ Zc cls d oe ∧ oe.data = .fields vs
/-- what an exception keeps: ns vs -/
def ExAt (J : Hp) : Option Addr → List Str → List V → Prop
  | none, ns, vs => ns = [] ∧ vs = []
  | some d, ns, vs => J d = some (.xd (ns.zip vs)) ∧ ns.length = vs.length
mutual
inductive RV (K : PySem.W.Frag) (J : Jp) : R → V → Prop
  | non : RV K J .non .non
  | bl (b : Bool) : RV K J (.bl b) (.bl b)
  | int (i : Int) : RV K J (.int i) (.int i)
  | str (x : Str) : RV K J (.str x) (.str x)
  | tup {a : Addr} {vs : List V} {rs : List R} : SqT K J.j a vs → RVs K J rs vs → RV K J (.tup rs) (.ref a)
  | lst {a : Addr} {vs : List V} {rs : List R} : J.j a = some (.lst vs) → RVs K J rs vs → RV K J (.lst rs) (.ref a)
  | o (a : Addr) : RV K J (.o a) (.ref a)
  | ty (n : Ty) : RV K J (.ty n) (.ty n.nm)
  | scr {a : Addr} {ns : List Int} : Ls K J.j a (ns.map V.int) → RV K J (.scr ns) (.ref a)
  /-- a tuple whose object is known: it has no dict -/
  | pt {a : Addr} {vs : List V} {rs : List R} {od : Obj} : J.j a = some (.frz od (.tup vs)) → od.dict = none → RVs K J rs vs → RV K J (.pt rs) (.ref a)
  | ex {a : Addr} {cls : Value} {d : Option Addr} {ns : List Str} {vs : List V} {rs : List R} : J.j a = some (exk a cls d) → ExAt J.j d ns vs → RVs K J rs vs → RV K J (.ex cls ns rs) (.ref a)
inductive RVs (K : PySem.W.Frag) (J : Jp) : List R → List V → Prop
  | nil : RVs K J [] []
  | cons {r : R} {v : V} {rs : List R} {vs : List V} : RV K J r v → RVs K J rs vs → RVs K J (r :: rs) (v :: vs)
end
/-- what stands stands further, what is kept is the same -/
def Ex (J J' : Jp) : Prop := (∀ a o, J.j a = some o → J'.j a = some o) ∧ J'.f = J.f
def ExH (J H : Hp) : Prop := ∀ a o, J a = some o → H a = some o
theorem Ex.rfl' {J : Jp} : Ex J J := ⟨fun _ _ h => h, rfl⟩
theorem Ex.trans {J J1 J2 : Jp} (a : Ex J J1) (b : Ex J1 J2) : Ex J J2 := ⟨fun x o h => b.1 x o (a.1 x o h), b.2.trans a.2⟩
theorem Ex.new {J : Jp} {p : Addr} {o : HO} (h : J.j p = none) : Ex J (J.put p o) := ⟨fun a u e => by
  show upd J.j p o a = _
  rw [upd_ne (ne_of_none e h)]; exact e, rfl⟩
theorem ExH.new {J : Hp} {p : Addr} {o : HO} (h : J p = none) : ExH J (upd J p o) := fun a u e => by
  rw [upd_ne (ne_of_none e h)]; exact e
theorem ExH.sqT {K : PySem.W.Frag} {J J' : Hp} {a : Addr} {vs : List V} (e : ExH J J') (h : SqT K J a vs) : SqT K J' a vs := by
  rcases h with (h | ⟨o, h⟩) | h
  · exact .inl (.inl (e _ _ h))
  · exact .inl (.inr ⟨o, e _ _ h⟩)
  · exact .inr h
theorem ExH.sqL {K : PySem.W.Frag} {J J' : Hp} {a : Addr} {vs : List V} (e : ExH J J') (h : SqL K J a vs) : SqL K J' a vs := by
  rcases h with (h | ⟨o, h⟩) | h
  · exact .inl (.inl (e _ _ h))
  · exact .inl (.inr ⟨o, e _ _ h⟩)
  · exact .inr h
theorem ExH.ls {K : PySem.W.Frag} {J J' : Hp} {a : Addr} {vs : List V} (e : ExH J J') (h : Ls K J a vs) : Ls K J' a vs := by
  rcases h with (h | ⟨o, h⟩) | h
  · exact .inl (.inl (e _ _ h))
  · exact .inl (.inr ⟨o, e _ _ h⟩)
  · exact .inr h
theorem ExH.exAt {J J' : Hp} (e : ExH J J') {d : Option Addr} {ns : List Str} {vs : List V} (h : ExAt J d ns vs) : ExAt J' d ns vs := by
  cases d with
  | none => exact h
  | some d => exact ⟨e _ _ h.1, h.2⟩
theorem Ex.h {J J' : Jp} (e : Ex J J') : ExH J.j J'.j := e.1
mutual
theorem RV.mj {K : PySem.W.Frag} {J J' : Jp} (e : ExH J.j J'.j) : ∀ {r : R} {v : V}, RV K J r v → RV K J' r v
  | _, _, .non => .non
  | _, _, .bl b => .bl b
  | _, _, .int i => .int i
  | _, _, .str x => .str x
  | _, _, .tup h hs => .tup (e.sqT h) (RVs.mj e hs)
  | _, _, .lst h hs => .lst (e _ _ h) (RVs.mj e hs)
  | _, _, .o a => .o a
  | _, _, .ty n => .ty n
  | _, _, .scr h => .scr (e.ls h)
  | _, _, .pt h h0 hs => .pt (e _ _ h) h0 (RVs.mj e hs)
  | _, _, .ex h h0 hs => .ex (e _ _ h) (e.exAt h0) (RVs.mj e hs)
theorem RVs.mj {K : PySem.W.Frag} {J J' : Jp} (e : ExH J.j J'.j) : ∀ {rs : List R} {vs : List V}, RVs K J rs vs → RVs K J' rs vs
  | _, _, .nil => .nil
  | _, _, .cons h hs => .cons (RV.mj e h) (RVs.mj e hs)
end
theorem RV.mono {K : PySem.W.Frag} {J J' : Jp} (e : Ex J J') {r : R} {v : V} (h : RV K J r v) : RV K J' r v := h.mj e.1
theorem RVs.mono {K : PySem.W.Frag} {J J' : Jp} (e : Ex J J') {rs : List R} {vs : List V} (h : RVs K J rs vs) : RVs K J' rs vs := h.mj e.1
section
variable {K : PySem.W.Frag} {J : Jp}
theorem RVs.len : ∀ {rs : List R} {vs : List V}, RVs K J rs vs → rs.length = vs.length
  | _, _, .nil => rfl
  | _, _, .cons _ hs => by rw [List.length_cons, List.length_cons, RVs.len hs]
theorem RVs.get : ∀ {rs : List R} {vs : List V} {i : Nat} {r : R}, RVs K J rs vs → rs[i]? = some r → ∃ v, vs[i]? = some v ∧ RV K J r v
  | _, _, _, _, .nil, e => by simp at e
  | _, _, 0, r, .cons h _, e => by simp at e; subst e; exact ⟨_, rfl, h⟩
  | _, _, i + 1, r, .cons _ hs, e => by
    obtain ⟨v, h1, h2⟩ := RVs.get (i := i) hs (by simpa using e)
    exact ⟨v, by simpa using h1, h2⟩
theorem RVs.app : ∀ {rs rs' : List R} {vs vs' : List V}, RVs K J rs vs → RVs K J rs' vs' → RVs K J (rs ++ rs') (vs ++ vs')
  | _, _, _, _, .nil, h => h
  | _, _, _, _, .cons a b, h => .cons a (RVs.app b h)
theorem RVs.set : ∀ {rs : List R} {vs : List V} {r : R} {v : V} (i : Nat), RVs K J rs vs → RV K J r v → RVs K J (rs.set i r) (vs.set i v)
  | _, _, _, _, _, .nil, _ => .nil
  | _, _, _, _, 0, .cons _ b, h => .cons h b
  | _, _, _, _, i + 1, .cons a b, h => .cons a (RVs.set i b h)
theorem RVs.take : ∀ {rs : List R} {vs : List V} (n : Nat), RVs K J rs vs → RVs K J (rs.take n) (vs.take n)
  | _, _, 0, _ => .nil
  | _, _, _ + 1, .nil => .nil
  | _, _, n + 1, .cons a b => .cons a (RVs.take n b)
theorem RVs.drop : ∀ {rs : List R} {vs : List V} (n : Nat), RVs K J rs vs → RVs K J (rs.drop n) (vs.drop n)
  | _, _, 0, h => h
  | _, _, _ + 1, .nil => .nil
  | _, _, n + 1, .cons _ b => RVs.drop n b
end
inductive MO where
  | lst (rs : List R)
  | dK (kvs : List (Key × R))
  | ins (C : Addr) (fs : List (Str × R))
  /-- the law's draw: its cells and its counts, whatever they are, the counts at most n -/
  | dr (n : Nat)
  /-- a dict that is being walked: it may be read -/
  | fK (od : Obj) (ws : List (Key × V)) (kvs : List (Key × R))
abbrev MH := Addr → Option MO
def updM (M : MH) (a : Addr) (m : MO) : MH := fun b => if b = a then some m else M b
theorem updM_same {M : MH} {a : Addr} {m : MO} : updM M a m a = some m := if_pos rfl
theorem updM_ne {M : MH} {a b : Addr} {m : MO} (h : b ≠ a) : updM M a m b = M b := if_neg h
theorem updM_updM {M : MH} {a : Addr} {m m' : MO} : updM (updM M a m) a m' = updM M a m' := by
  funext b; unfold updM; split <;> rfl
/-- all of M stands in M' -/
def Sub (M M' : MH) : Prop := ∀ a m, M a = some m → M' a = some m
theorem Sub.rfl' {M : MH} : Sub M M := fun _ _ h => h
theorem Sub.trans {M M1 M2 : MH} (a : Sub M M1) (b : Sub M1 M2) : Sub M M2 := fun x m h => b x m (a x m h)
theorem Sub.new {M M' : MH} {a : Addr} {m : MO} (s : Sub M M') (h : M a = none) : Sub M (updM M' a m) := fun b u e => by
  have n : b ≠ a := fun z => by rw [z, h] at e; cases e
  rw [updM_ne n]; exact s b u e
def KRV (K : PySem.W.Frag) (J : Jp) {κ : Type} : List (κ × R) → List (κ × V) → Prop := Paired fun p q => p.1 = q.1 ∧ RV K J p.2 q.2
theorem KRV.mj {K : PySem.W.Frag} {J J' : Jp} {κ : Type} (e : ExH J.j J'.j) : ∀ {ps : List (κ × R)} {qs : List (κ × V)}, KRV K J ps qs → KRV K J' ps qs
  | _, _, .nil => .nil
  | _, _, .cons ⟨a, b⟩ t => .cons ⟨a, b.mj e⟩ (KRV.mj e t)
theorem KRV.mono {K : PySem.W.Frag} {J J' : Jp} {κ : Type} (e : Ex J J') {ps : List (κ × R)} {qs : List (κ × V)} (h : KRV K J ps qs) : KRV K J' ps qs := h.mj e.1
/-- the law's draw: cells, at, left, used -/
def drKvs (ns : List Int) (t l u : Int) : List (Key × R) := [(.inr "cells", .lst (ns.map R.int)), (.inr "at", .int t), (.inr "left", .int l), (.inr "used", .int u)]
structure DrOk (n : Nat) (ns : List Int) (t l u : Int) : Prop where
  len : 1 ≤ ns.length ∧ ns.length ≤ 100
  at0 : 0 ≤ t ∧ 0 ≤ u ∧ t ≤ n ∧ u ≤ n
  left0 : 0 ≤ l
def KOk (K : PySem.W.Frag) (J : Jp) (H : Hp) (a : Addr) (kvs : List (Key × R)) : Prop := ∃ ws, H a = some (.dK ws) ∧ KRV K J kvs ws
def MOk (K : PySem.W.Frag) (J : Jp) (H : Hp) (a : Addr) : MO → Prop
  | .lst rs => ∃ vs, H a = some (.lst vs) ∧ RVs K J rs vs
  | .dK kvs => KOk K J H a kvs
  | .ins C fs => ∃ dx ws, H a = some (.ins C dx ws) ∧ KRV K J fs ws
  | .dr n => ∃ ns t l u, DrOk n ns t l u ∧ KOk K J H a (drKvs ns t l u)
  | .fK od ws kvs => H a = some (.frz od (.dK ws)) ∧ KRV K J kvs ws
/-- the state: J stands for ever, M may change -/
structure DSt (K : PySem.W.Frag) (J : Jp) (H : Hp) (M : MH) : Prop where
  ex : ExH J.j H
  fr : ExH J.f H
  fj : ∀ a o, J.f a = some o → J.j a = none
  no : ∀ a m, M a = some m → J.j a = none ∧ J.f a = none
  mo : ∀ a m, M a = some m → MOk K J H a m
theorem MOk.mono {K : PySem.W.Frag} {J J' : Jp} {H H' : Hp} {a : Addr} {m : MO} (e : Ex J J') (h : H' a = H a) (x : MOk K J H a m) : MOk K J' H' a m := by
  cases m with
  | lst rs => obtain ⟨vs, h1, h2⟩ := x; exact ⟨vs, h.trans h1, h2.mono e⟩
  | dK kvs => obtain ⟨vs, h1, h2⟩ := x; exact ⟨vs, h.trans h1, h2.mono e⟩
  | ins C fs => obtain ⟨dx, vs, h1, h2⟩ := x; exact ⟨dx, vs, h.trans h1, h2.mono e⟩
  | dr n => obtain ⟨ns, t, l, u, h0, vs, h1, h2⟩ := x; exact ⟨ns, t, l, u, h0, vs, h.trans h1, h2.mono e⟩
  | fK od ws kvs => exact ⟨h.trans x.1, x.2.mono e⟩
theorem MOk.some {K : PySem.W.Frag} {J : Jp} {H : Hp} {a : Addr} {m : MO} (x : MOk K J H a m) : ∃ o, H a = some o := by
  cases m with
  | lst rs => obtain ⟨vs, h1, h2⟩ := x; exact ⟨_, h1⟩
  | dK kvs => obtain ⟨vs, h1, h2⟩ := x; exact ⟨_, h1⟩
  | ins C fs => obtain ⟨dx, vs, h1, h2⟩ := x; exact ⟨_, h1⟩
  | dr n => obtain ⟨ns, t, l, u, h0, vs, h1, h2⟩ := x; exact ⟨_, h1⟩
  | fK od ws kvs => exact ⟨_, x.1⟩
section
variable {K : PySem.W.Frag} {J : Jp} {H : Hp} {M M' : MH} {p : Addr} {o : HO}
theorem DSt.sub (d : DSt K J H M) (s : Sub M' M) : DSt K J H M' := ⟨d.ex, d.fr, d.fj, fun a m e => d.no a m (s a m e), fun a m e => d.mo a m (s a m e)⟩
theorem none_of {J H : Hp} (e : ExH J H) (h : H p = none) : J p = none := by
  cases q : J p with
  | none => rfl
  | some o => have := e _ _ q; rw [h] at this; cases this
theorem DSt.jnone (d : DSt K J H M) (h : H p = none) : J.j p = none := none_of d.ex h
theorem DSt.fnone (d : DSt K J H M) (h : H p = none) : J.f p = none := none_of d.fr h
theorem DSt.mnone (d : DSt K J H M) (h : H p = none) : M p = none := by
  cases e : M p with
  | none => rfl
  | some m => obtain ⟨q, hq⟩ := (d.mo p m e).some; rw [h] at hq; cases hq
theorem DSt.mne (d : DSt K J H M) (h : H p = none) : ∀ a m, M a = some m → a ≠ p := fun a m e z => by
  rw [z, d.mnone h] at e; cases e
/-- a new object that stands for ever -/
theorem DSt.new (d : DSt K J H M) (h : H p = none) : DSt K (J.put p o) (upd H p o) M := by
  refine ⟨fun a q e => ?_, fun a q e => ?_, fun a q e => ?_, fun a m e => ?_, fun a m e => ?_⟩
  · have e' : upd J.j p o a = some q := e
    by_cases z : a = p
    · rw [z, upd_same] at e' ⊢; exact e'
    · rw [upd_ne z] at e' ⊢; exact d.ex _ _ e'
  · rw [upd_ne (ne_of_none e (d.fnone h))]; exact d.fr _ _ e
  · show upd J.j p o a = none
    rw [upd_ne (ne_of_none e (d.fnone h))]; exact d.fj _ _ e
  · show upd J.j p o a = none ∧ _
    rw [upd_ne (d.mne h a m e)]; exact d.no a m e
  · exact (d.mo a m e).mono (Ex.new (d.jnone h)) (upd_ne (d.mne h a m e))
/-- a new object that may change -/
theorem DSt.newM (d : DSt K J H M) {m : MO} (h : H p = none) (x : MOk K J (upd H p o) p m) : DSt K J (upd H p o) (updM M p m) := by
  refine ⟨fun a q e => ?_, fun a q e => ?_, d.fj, fun a u e => ?_, fun a u e => ?_⟩
  · rw [upd_ne (ne_of_none e (d.jnone h))]; exact d.ex _ _ e
  · rw [upd_ne (ne_of_none e (d.fnone h))]; exact d.fr _ _ e
  · by_cases z : a = p
    · rw [z]; exact ⟨d.jnone h, d.fnone h⟩
    · rw [updM_ne z] at e; exact d.no a u e
  · by_cases z : a = p
    · rw [z, updM_same] at e; cases e; rw [z]; exact x
    · rw [updM_ne z] at e; exact (d.mo a u e).mono Ex.rfl' (upd_ne z)
/-- a change -/
theorem DSt.put (d : DSt K J H M) {m m' : MO} (h : M p = some m) (x : MOk K J (upd H p o) p m') : DSt K J (upd H p o) (updM M p m') := by
  refine ⟨fun a q e => ?_, fun a q e => ?_, d.fj, fun a u e => ?_, fun a u e => ?_⟩
  · rw [upd_ne (ne_of_none e (d.no p m h).1)]; exact d.ex _ _ e
  · rw [upd_ne (ne_of_none e (d.no p m h).2)]; exact d.fr _ _ e
  · by_cases z : a = p
    · rw [z]; exact d.no p m h
    · rw [updM_ne z] at e; exact d.no a u e
  · by_cases z : a = p
    · rw [z, updM_same] at e; cases e; rw [z]; exact x
    · rw [updM_ne z] at e; exact (d.mo a u e).mono Ex.rfl' (upd_ne z)
/-- a list that changes no more stands for ever: M' is M without it -/
theorem DSt.freeze (d : DSt K J H M) {rs : List R} (h : M p = some (.lst rs)) (s : Sub M' M) (hn : M' p = none) : ∃ J', Ex J J' ∧ DSt K J' H M' ∧ RV K J' (.lst rs) (.ref p) := by
  obtain ⟨vs, h1, h2⟩ := d.mo p _ h
  have n := d.no p _ h
  have e : Ex J (J.put p (.lst vs)) := Ex.new n.1
  refine ⟨J.put p (.lst vs), e, ⟨fun a q z => ?_, d.fr, fun a q z => ?_, fun a m z => ?_, fun a m z => (d.mo a m (s a m z)).mono e rfl⟩, .lst upd_same (h2.mono e)⟩
  · have z' : upd J.j p (.lst vs) a = some q := z
    by_cases w : a = p
    · rw [w, upd_same] at z'; rw [w, h1, z']
    · rw [upd_ne w] at z'; exact d.ex _ _ z'
  · show upd J.j p (.lst vs) a = none
    rw [upd_ne (ne_of_none z n.2)]; exact d.fj _ _ z
  · have w : a ≠ p := fun w => by rw [w, hn] at z; cases z
    show upd J.j p (.lst vs) a = none ∧ _
    rw [upd_ne w]; exact d.no a m (s a m z)
end
abbrev G := List (Option R)
def RG (K : PySem.W.Frag) (J : Jp) (g : G) (σ : St) : Prop := g.length = σ.length ∧ ∀ (i : Nat) (r : R), g[i]? = some (some r) → ∃ v, σ[i]? = some (some v) ∧ RV K J r v
theorem RG.mono {K : PySem.W.Frag} {J J' : Jp} {g : G} {σ : St} (e : Ex J J') (h : RG K J g σ) : RG K J' g σ :=
  ⟨h.1, fun i r x => let ⟨v, h1, h2⟩ := h.2 i r x; ⟨v, h1, h2.mono e⟩⟩
theorem RG.set {K : PySem.W.Frag} {J : Jp} {g : G} {σ : St} {r : R} {v : V} (i : Nat) (h : RG K J g σ) (x : RV K J r v) : RG K J (g.set i (some r)) (σ.set i (some v)) := by
  refine ⟨by rw [List.length_set, List.length_set]; exact h.1, fun j s e => ?_⟩
  by_cases z : i = j
  · subst z
    have hl : i < g.length := by
      have := (List.getElem?_eq_some_iff.mp e).1
      rwa [List.length_set] at this
    rw [List.getElem?_set_self hl] at e
    cases e
    exact ⟨v, List.getElem?_set_self (by rw [← h.1]; exact hl), x⟩
  · rw [List.getElem?_set_ne z] at e ⊢
    exact h.2 j s e
def wipeG (g : G) : List Nat → G
  | [] => g
  | v :: vs => (wipeG g vs).set v none
theorem RG.wipe {K : PySem.W.Frag} {J : Jp} {g : G} {σ : St} (h : RG K J g σ) : ∀ vs : List Nat, RG K J (wipeG g vs) (L2.wipe σ vs)
  | [] => h
  | v :: vs => by
    have ih := RG.wipe h vs
    refine ⟨by unfold wipeG L2.wipe; rw [List.length_set, List.length_set]; exact ih.1, fun j s e => ?_⟩
    unfold wipeG at e
    unfold L2.wipe
    by_cases z : v = j
    · subst z
      have hl : v < (wipeG g vs).length := by
        have := (List.getElem?_eq_some_iff.mp e).1
        rwa [List.length_set] at this
      rw [List.getElem?_set_self hl] at e
      cases e
    · rw [List.getElem?_set_ne z] at e ⊢
      exact ih.2 j s e
abbrev DP := R → MH → Prop
theorem RV.ptT {K : PySem.W.Frag} {J : Hp} {a : Addr} {vs : List V} {od : Obj} (h : J a = some (.frz od (.tup vs))) : SqT K J a vs := .inl (.inr ⟨od, h⟩)
/-- what is wished of an exception: its class, its own fields -/
abbrev DX := Value → Option (List (Str × R)) → MH → Prop
abbrev WE := G → MH → DP → DX → Prop
abbrev WT := G → MH → (Bool → MH → Prop) → DX → Prop
abbrev WA := G → MH → (List R → MH → Prop) → DX → Prop
abbrev EW := Value → Option Addr → Hp → Prop
def XD (K : PySem.W.Frag) (J : Jp) (H : Hp) : Option Addr → Option (List (Str × R)) → Prop
  | none, none => True
  | some d, some fs => ∃ ws, J.j d = some (.xd ws) ∧ KRV K J fs ws
  | _, _ => False
def Cont (K : PySem.W.Frag) (J : Jp) (P : DP) (Q : VK) : Prop := ∀ r v J' H' M', P r M' → Ex J J' → DSt K J' H' M' → RV K J' r v → Q v H'
def ContB (K : PySem.W.Frag) (J : Jp) (P : Bool → MH → Prop) (Q : Bool → Hp → Prop) : Prop := ∀ b J' H' M', P b M' → Ex J J' → DSt K J' H' M' → Q b H'
def ContA (K : PySem.W.Frag) (n : Nat) (J : Jp) (P : List R → MH → Prop) (Q : List V → Hp → Prop) : Prop := ∀ rs vs J' H' M', P rs M' → rs.length = n → Ex J J' → DSt K J' H' M' → RVs K J' rs vs → Q vs H'
def ContX (K : PySem.W.Frag) (J : Jp) (xw : DX) (E : EW) : Prop := ∀ cls fs d J' H' M', xw cls fs M' → Ex J J' → DSt K J' H' M' → XD K J' H' d fs → E cls d H'
section
variable {K : PySem.W.Frag} {J J1 : Jp}
theorem Cont.mono {P : DP} {Q : VK} (h : Cont K J P Q) (e : Ex J J1) : Cont K J1 P Q := fun r v J' H' M' p e' => h r v J' H' M' p (e.trans e')
theorem ContB.mono {P : Bool → MH → Prop} {Q : Bool → Hp → Prop} (h : ContB K J P Q) (e : Ex J J1) : ContB K J1 P Q := fun r J' H' M' p e' => h r J' H' M' p (e.trans e')
theorem ContA.mono {n : Nat} {P : List R → MH → Prop} {Q : List V → Hp → Prop} (h : ContA K n J P Q) (e : Ex J J1) : ContA K n J1 P Q := fun r v J' H' M' p l e' => h r v J' H' M' p l (e.trans e')
theorem ContX.mono {xw : DX} {E : EW} (h : ContX K J xw E) (e : Ex J J1) : ContX K J1 xw E := fun r v d J' H' M' p e' => h r v d J' H' M' p (e.trans e')
end
abbrev WW := Value → Option Addr → St → Hp → Prop
def Sim (K : PySem.W.Frag) (W : WW) (te : TE) (w : WE) : Prop := ∀ (J : Jp) (H : Hp) (σ : St) (g : G) (M : MH) (P : DP) (xw : DX) (Q : VK), DSt K J H M → RG K J g σ → w g M P xw → Cont K J P Q → ContX K J xw (fun c d H => W c d σ H) → te σ H Q
def SimT (K : PySem.W.Frag) (W : WW) (te : TT) (w : WT) : Prop := ∀ (J : Jp) (H : Hp) (σ : St) (g : G) (M : MH) (P : Bool → MH → Prop) (xw : DX) (Q : Bool → Hp → Prop), DSt K J H M → RG K J g σ → w g M P xw → ContB K J P Q → ContX K J xw (fun c d H => W c d σ H) → te σ H Q
def SimA (K : PySem.W.Frag) (W : WW) (n : Nat) (te : TA) (w : WA) : Prop := ∀ (J : Jp) (H : Hp) (σ : St) (g : G) (M : MH) (P : List R → MH → Prop) (xw : DX) (Q : List V → Hp → Prop), DSt K J H M → RG K J g σ → w g M P xw → ContA K n J P Q → ContX K J xw (fun c d H => W c d σ H) → te σ H Q
structure DE (X : Cx) (W : WW) (e : Expr) (w : WE) : Prop where
  ex : ∃ te, PE X e te ∧ Sim X.K W te w
structure DT (X : Cx) (W : WW) (e : Expr) (w : WT) : Prop where
  ex : ∃ te, PT X e te ∧ SimT X.K W te w
/-- a test, whatever its whole is -/
structure DW (X : Cx) (W : WW) (e : Expr) (w : WT) : Prop where
  ex : ∃ te, PW X e te ∧ SimT X.K W te w
structure DA (X : Cx) (W : WW) (es : List Expr) (w : WA) : Prop where
  ex : ∃ te, PA X es te ∧ SimA X.K W es.length te w
section
variable {X : Cx} {W : WW} {pos : Pos}
def wVar (i : Nat) : WE := fun g M P _ => match g[i]? with
  | some (some r) => P r M
  | _ => False
theorem de_var (i : Nat) {x : Str} (hN : X.N[i]? = some x := by rfl) (hv : Vis X.env.scope x := by first | exact Or.inl rfl | exact Or.inr (Or.inl rfl) | exact Or.inr (Or.inr rfl)) (hd : (x == ("__debug__" : Str)) = false := by decide)
    (hcd : (x == ("__classdict__" : Str)) = false := by decide) : DE X W (.Name x pos) (wVar i) := by
  refine ⟨tVar i, pe_var hN hv hd hcd, fun J H σ g M P xw Q d rg h c _ => ?_⟩
  unfold wVar at h
  split at h
  · rename_i r e
    obtain ⟨v, h1, h2⟩ := rg.2 i r e
    exact ⟨v, h1, c r v J H M h Ex.rfl' d h2⟩
  · exact h.elim
def wC (r : R) : WE := fun _ M P _ => P r M
theorem de_int {i j} : DE X W (.Constant (.int i) j pos) (wC (.int i)) := ⟨_, pe_int, fun J H _ _ M _ _ _ d _ h c _ => c (.int i) (.int i) J H M h Ex.rfl' d (.int i)⟩
theorem de_bl {i j} : DE X W (.Constant (.bool i) j pos) (wC (.bl i)) := ⟨_, pe_bl, fun J H _ _ M _ _ _ d _ h c _ => c (.bl i) (.bl i) J H M h Ex.rfl' d (.bl i)⟩
theorem de_str {i j} : DE X W (.Constant (.str i) j pos) (wC (.str i)) := ⟨_, pe_str, fun J H _ _ M _ _ _ d _ h c _ => c (.str i) (.str i) J H M h Ex.rfl' d (.str i)⟩
/-- an operation on two values -/
abbrev D2 := R → R → MH → DP → Prop
def Sim2 (K : PySem.W.Frag) (r : R2) (f : D2) : Prop := ∀ (J : Jp) (H : Hp) (M : MH) (x y : R) (v u : V) (P : DP) (Q : VK), DSt K J H M → RV K J x v → RV K J y u → f x y M P → Cont K J P Q → r v u H Q
def wOp (f : D2) (wa wb : WE) : WE := fun g M P xw => wa g M (fun x M1 => wb g M1 (fun y M2 => f x y M2 P) xw) xw
theorem Sim.op {K : PySem.W.Frag} {ta tb : TE} {wa wb : WE} {r : R2} {f : D2} (s : Sim2 K r f) (ha : Sim K W ta wa) (hb : Sim K W tb wb) : Sim K W (tOp r ta tb) (wOp f wa wb) :=
  fun J H σ g M P xw Q d rg h c cx => ha J H σ g M _ xw _ d rg h (fun x v J1 H1 M1 p1 e1 d1 r1 =>
    hb J1 H1 σ g M1 _ xw _ d1 (rg.mono e1) p1 (fun y u J2 H2 M2 p2 e2 d2 r2 => s J2 H2 M2 x y v u P Q d2 (r1.mono e2) r2 p2 ((c.mono e1).mono e2)) (cx.mono e1)) cx
theorem de_op {op : Operator} {r : R2} {f : D2} {a b : Expr} {wa wb : WE} (ho : OpR X (binaryOp op) r) (s : Sim2 X.K r f) (ha : DE X W a wa) (hb : DE X W b wb) : DE X W (.BinOp a op b pos) (wOp f wa wb) := by
  obtain ⟨ta, pa, sa⟩ := ha
  obtain ⟨tb, pb, sb⟩ := hb
  exact ⟨_, pe_op ho pa pb, sa.op s sb⟩
theorem de_cmp {op : CmpOp} {r : R2} {f : D2} {a b : Expr} {wa wb : WE} (ho : OpR X (compareOp op) r) (s : Sim2 X.K r f) (ha : DE X W a wa) (hb : DE X W b wb) (hm : behindInMarks op b = false := by rfl) : DE X W (.Compare a [op] [b] pos) (wOp f wa wb) := by
  obtain ⟨ta, pa, sa⟩ := ha
  obtain ⟨tb, pb, sb⟩ := hb
  exact ⟨_, pe_cmpR ho pa pb hm, sa.op s sb⟩
end
end DL
set_option Elab.async false
set_option linter.all false
set_option maxRecDepth 100000
set_option maxHeartbeats 2000000
namespace DL
open PySem PySem.Spec L2
open PyProof.Rows hiding St
/-- a list, standing or changing -/
def LsOf (M : MH) (x : R) (rs : List R) : Prop := match x with
  | .lst rs' => rs' = rs
  | .scr ns => ns.map R.int = rs
  | .o a => M a = some (.lst rs)
  | _ => False
/-- .. not the script -/
def LtOf (M : MH) (x : R) (rs : List R) : Prop := match x with
  | .lst rs' => rs' = rs
  | .o a => M a = some (.lst rs)
  | _ => False
theorem ints_rvs {K : PySem.W.Frag} {J : Jp} : ∀ ns : List Int, RVs K J (ns.map R.int) (ns.map V.int)
  | [] => .nil
  | n :: ns => .cons (.int n) (ints_rvs ns)
section
variable {K : PySem.W.Frag} {J : Jp} {H : Hp} {M : MH} {P : DP} {Q : VK}
theorem LsOf.get {x : R} {v : V} {rs : List R} (d : DSt K J H M) (r : RV K J x v) (h : LsOf M x rs) : ∃ a vs, v = .ref a ∧ Ls K H a vs ∧ RVs K J rs vs := by
  cases r with
  | lst h1 h2 =>
    have e : _ = rs := h
    subst e
    exact ⟨_, _, rfl, .inl (.inl (d.ex _ _ h1)), h2⟩
  | scr h1 =>
    have e : _ = rs := h
    subst e
    exact ⟨_, _, rfl, d.ex.ls h1, ints_rvs _⟩
  | o a =>
    obtain ⟨vs, h1, h2⟩ := d.mo a _ h
    exact ⟨a, vs, rfl, .inl (.inl h1), h2⟩
  | _ => exact False.elim h
theorem LtOf.get {x : R} {v : V} {rs : List R} (d : DSt K J H M) (r : RV K J x v) (h : LtOf M x rs) : ∃ a vs, v = .ref a ∧ H a = some (.lst vs) ∧ RVs K J rs vs := by
  cases r with
  | lst h1 h2 =>
    have e : _ = rs := h
    subst e
    exact ⟨_, _, rfl, d.ex _ _ h1, h2⟩
  | o a =>
    obtain ⟨vs, h1, h2⟩ := d.mo a _ h
    exact ⟨a, vs, rfl, h1, h2⟩
  | _ => exact False.elim h
/-- what follows with a new tuple, a new list that stands, a new list that changes, a new dict -/
theorem newT (d : DSt K J H M) (c : Cont K J P Q) {rs : List R} {vs : List V} (h : P (.tup rs) M) (r : RVs K J rs vs) : ∀ p, H p = none → Q (.ref p) (upd H p (.tup vs)) := fun p hp =>
  c (.tup rs) (.ref p) (J.put p (.tup vs)) _ M h (Ex.new (d.jnone hp)) (d.new hp) (.tup (.inl (.inl upd_same)) (r.mono (Ex.new (d.jnone hp))))
theorem newL (d : DSt K J H M) (c : Cont K J P Q) {rs : List R} {vs : List V} (h : P (.lst rs) M) (r : RVs K J rs vs) : ∀ p, H p = none → Q (.ref p) (upd H p (.lst vs)) := fun p hp =>
  c (.lst rs) (.ref p) (J.put p (.lst vs)) _ M h (Ex.new (d.jnone hp)) (d.new hp) (.lst upd_same (r.mono (Ex.new (d.jnone hp))))
theorem newO (d : DSt K J H M) (c : Cont K J P Q) {rs : List R} {vs : List V} (h : ∀ a, M a = none → P (.o a) (updM M a (.lst rs))) (r : RVs K J rs vs) : ∀ p, H p = none → Q (.ref p) (upd H p (.lst vs)) := fun p hp =>
  c (.o p) (.ref p) J _ _ (h p (d.mnone hp)) Ex.rfl' (d.newM hp ⟨vs, upd_same, r⟩) (.o p)
mutual
def R.py : R → Option PyData
  | .non => some .none
  | .bl b => some (.bool b)
  | .int i => some (.int i)
  | .str x => some (.str x)
  | .tup rs => (R.pys rs).map .tuple
  | .lst rs => (R.pys rs).map .list
  | .o _ => none
  | .ty _ => none
  | .scr _ => none
  | .pt rs => (R.pys rs).map .tuple
  | .ex _ _ _ => none
def R.pys : List R → Option (List PyData)
  | [] => some []
  | r :: rs => match r.py, R.pys rs with
    | some d, some ds => some (d :: ds)
    | _, _ => none
end
mutual
theorem RV.dp {K : PySem.W.Frag} {J : Jp} : ∀ {r : R} {v : V}, RV K J r v → ∀ {d : PyData}, r.py = some d → Dp K J.j v d
  | _, _, .non, _, e => by cases e; exact .non
  | _, _, .bl b, _, e => by cases e; exact .bl b
  | _, _, .int i, _, e => by cases e; exact .int i
  | _, _, .str x, _, e => by cases e; exact .str x
  | _, _, .tup h hs, d, e => by
    rw [R.py] at e
    obtain ⟨ds, e1, e2⟩ := Option.map_eq_some_iff.mp e
    subst e2
    exact .tup h (RVs.dp hs e1)
  | _, _, .lst h hs, d, e => by
    rw [R.py] at e
    obtain ⟨ds, e1, e2⟩ := Option.map_eq_some_iff.mp e
    subst e2
    exact .lst (.inl (.inl h)) (RVs.dp hs e1)
  | _, _, .o a, _, e => by cases e
  | _, _, .ty a, _, e => by cases e
  | _, _, .ex _ _ _, _, e => by cases e
  | _, _, .scr h, _, e => by cases e
  | _, _, .pt h h0 hs, d, e => by
    rw [R.py] at e
    obtain ⟨ds, e1, e2⟩ := Option.map_eq_some_iff.mp e
    subst e2
    exact .tup (.inl (.inr ⟨_, h⟩)) (RVs.dp hs e1)
theorem RVs.dp {K : PySem.W.Frag} {J : Jp} : ∀ {rs : List R} {vs : List V}, RVs K J rs vs → ∀ {ds : List PyData}, R.pys rs = some ds → DpAll K J.j vs ds
  | _, _, .nil, _, e => by cases e; exact .nil
  | _, _, .cons (r := r) (rs := rs) h hs, ds, e => by
    rw [R.pys] at e
    cases e1 : r.py with
    | none => rw [e1] at e; cases e
    | some d =>
      cases e2 : R.pys rs with
      | none => rw [e1, e2] at e; cases e
      | some ds' =>
        rw [e1, e2] at e
        cases e
        exact .cons (RV.dp h e1) (RVs.dp hs e2)
end
mutual
theorem dp_mono {K : PySem.W.Frag} {J J' : Hp} (e : ExH J J') : ∀ {v : V} {d : PyData}, Dp K J v d → Dp K J' v d
  | _, _, .non => .non
  | _, _, .bl b => .bl b
  | _, _, .int i => .int i
  | _, _, .str x => .str x
  | _, _, .lst h hs => .lst (e.sqL h) (dps_mono e hs)
  | _, _, .tup h hs => .tup (e.sqT h) (dps_mono e hs)
theorem dps_mono {K : PySem.W.Frag} {J J' : Hp} (e : ExH J J') : ∀ {vs : List V} {ds : List PyData}, DpAll K J vs ds → DpAll K J' vs ds
  | _, _, .nil => .nil
  | _, _, .cons h hs => .cons (dp_mono e h) (dps_mono e hs)
end
def PyOf (M : MH) (x : R) (d : PyData) : Prop := x.py = some d ∨ ∃ a rs ds, x = .o a ∧ M a = some (.lst rs) ∧ R.pys rs = some ds ∧ d = .list ds
theorem PyOf.dp {x : R} {v : V} {dd : PyData} (d : DSt K J H M) (r : RV K J x v) (h : PyOf M x dd) : Dp K H v dd := by
  rcases h with h | ⟨a, rs, ds, rfl, h1, h2, rfl⟩
  · exact dp_mono d.ex (r.dp h)
  · cases r
    obtain ⟨vs, h3, h4⟩ := d.mo a _ h1
    exact .lst (.inl (.inl h3)) (dps_mono d.ex (RVs.dp h4 h2))
def rCatLs (K : PySem.W.Frag) : R2 := fun x y H Q => ∃ l b xs zs, x = .ref l ∧ y = .ref b ∧ Ls K H l xs ∧ Ls K H b zs ∧ xs.length + zs.length ≤ sizeLine ∧ ∀ p, H p = none → Q (.ref p) (upd H p (.lst (xs ++ zs)))
end
section
variable {X : Cx}
theorem ls_obj {pins : List (Addr × Obj)} {σ : L2.St} {H : Hp} {s : Shared} {a : Addr} {xs : List V} (I : Inv X pins σ H s) (h : Ls X.K H a xs) :
    ∃ (its : List Value) (n : Nat), Vals xs its ∧ xs.length ≤ sizeLine ∧ s.heap.get? a = some { cls := .type "list", data := .seq its.toArray n } := by
  rcases h with h | ⟨its, h1, h2, h3⟩
  · obtain ⟨z, its, n, r, e⟩ := h.ok I.hok
    exact ⟨its, n, r, z, e⟩
  · exact ⟨its, _, h3, by rw [h3.length]; exact h2, I.kIn a _ h1⟩
theorem op_catLs : OpR X (binaryOp .Add) (rCatLs X.K) := by
  intro pins s σ H x y v u Q I rx ry h
  obtain ⟨l, b, xs, zs, rfl, rfl, hl, hb, hz, q⟩ := h
  cases rx
  cases ry
  obtain ⟨its, n, r1, _, e1⟩ := ls_obj I hl
  obtain ⟨its2, n2, r2, _, e2⟩ := ls_obj I hb
  have l1 := r1.length
  have l2 := r2.length
  refine PySem.P.add_list e1 e2 ?_ (by rw [List.size_toArray, List.size_toArray]; omega)
  rw [show its.toArray ++ its2.toArray = (its ++ its2).toArray by simp]
  exact ⟨.ref _, _, I.lnew (t' := s.toks) (r1.append r2) (by rw [List.length_append]; exact hz), rfl, q _ I.fresh⟩
def rAddU (K : PySem.W.Frag) : R2 := fun x y H Q => rI0 (fun i j => .int (i + j)) x y H Q ∨ ((∃ i k, x = .int i ∧ y = .bl k ∧ Q (.int (i + b2i k)) H) ∨
  ((∃ i j, x = .str i ∧ y = .str j ∧ i.length + j.length ≤ sizeLine ∧ Q (.str (i ++ j)) H) ∨ (rCatA K x y H Q ∨ rCatLs K x y H Q)))
theorem op_addU : OpR X (binaryOp .Add) (rAddU X.K) := op_add.or (op_add_ib.or (op_add_str.or (op_catA.or op_catLs)))
end
section
variable {K : PySem.W.Frag} {J : Jp} {H : Hp} {M : MH} {P : DP} {Q : VK}
def dAdd : D2 := fun x y M P => match x, y with
  | .int i, .int j => P (.int (i + j)) M
  | .int i, .bl k => P (.int (i + b2i k)) M
  | .str a, .str b => a.length + b.length ≤ sizeLine ∧ P (.str (a ++ b)) M
  | .tup a, .tup b => a.length + b.length ≤ sizeLine ∧ P (.tup (a ++ b)) M
  | x, y => ∃ a b, LsOf M x a ∧ LsOf M y b ∧ a.length + b.length ≤ sizeLine ∧ P (.lst (a ++ b)) M
theorem sim_add : Sim2 K (rAddU K) dAdd := by
  intro J H M x y v u P Q d rx ry h c
  unfold dAdd at h
  split at h
  · cases rx; cases ry
    exact .inl ⟨_, _, rfl, rfl, c _ _ J H M h Ex.rfl' d (.int _)⟩
  · cases rx; cases ry
    exact .inr (.inl ⟨_, _, rfl, rfl, c _ _ J H M h Ex.rfl' d (.int _)⟩)
  · cases rx; cases ry
    exact .inr (.inr (.inl ⟨_, _, rfl, rfl, h.1, c _ _ J H M h.2 Ex.rfl' d (.str _)⟩))
  · rename_i rs rs'
    cases rx with
    | tup h1 h2 =>
      cases ry with
      | tup h3 h4 =>
        refine .inr (.inr (.inr (.inl ⟨_, _, _, _, rfl, rfl, d.ex.sqT h1, d.ex.sqT h3, by rw [← h2.len, ← h4.len]; exact h.1, fun e => ?_, fun e e' => ?_, fun _ _ => newT d c h.2 (h2.app h4)⟩)))
        · subst e
          cases h2
          exact c (.tup ([] ++ rs')) _ J H M h.2 Ex.rfl' d (.tup h3 h4)
        · subst e'
          cases h4
          have e2 : rs ++ [] = rs := List.append_nil rs
          exact c (.tup rs) _ J H M (e2 ▸ h.2) Ex.rfl' d (.tup h1 h2)
  · obtain ⟨a, b, h1, h2, h3, h4⟩ := h
    obtain ⟨p, vs, e1, l1, r1⟩ := h1.get d rx
    obtain ⟨q, us, e2, l2, r2⟩ := h2.get d ry
    exact .inr (.inr (.inr (.inr ⟨_, _, _, _, e1, e2, l1, l2, by rw [← r1.len, ← r2.len]; exact h3, newL d c h4 (r1.app r2)⟩)))
def dI0 (g : Int → Int → R) : D2 := fun x y M P => match x, y with
  | .int i, .int j => P (g i j) M
  | _, _ => False
def dIC (C : Int → Int → Prop) (g : Int → Int → Int) : D2 := fun x y M P => match x, y with
  | .int i, .int j => C i j ∧ P (.int (g i j)) M
  | _, _ => False
theorem sim_B0 {g : Int → Int → Bool} : Sim2 K (rI0 fun i j => .bl (g i j)) (dI0 fun i j => .bl (g i j)) := by
  intro J H M x y v u P Q d rx ry h c
  unfold dI0 at h
  split at h
  · cases rx; cases ry
    exact ⟨_, _, rfl, rfl, c _ _ J H M h Ex.rfl' d (.bl _)⟩
  · exact h.elim
theorem sim_IC {C : Int → Int → Prop} {g : Int → Int → Int} : Sim2 K (rI C fun i j => .int (g i j)) (dIC C g) := by
  intro J H M x y v u P Q d rx ry h c
  unfold dIC at h
  split at h
  · cases rx; cases ry
    exact ⟨_, _, rfl, rfl, h.1, c _ _ J H M h.2 Ex.rfl' d (.int _)⟩
  · exact h.elim
/-- int * int, list * int -/
def rMulU : R2 := fun x y H Q => rI CMul (fun i j => .int (i * j)) x y H Q ∨ (rI CMulW (fun i j => .int (i * j)) x y H Q ∨ rRep x y H Q)
def dMul : D2 := fun x y M P => match x, y with
  | .int i, .int j => (CMul i j ∨ CMulW i j) ∧ P (.int (i * j)) M
  | x, .int k => ∃ a, LtOf M x a ∧ -(2 ^ 63) ≤ k ∧ k < 2 ^ 63 ∧ a.length * k.toNat ≤ sizeLine ∧ P (.lst (List.replicate k.toNat a).flatten) M
  | _, _ => False
theorem RVs.rep {rs : List R} {vs : List V} (h : RVs K J rs vs) : ∀ n : Nat, RVs K J (List.replicate n rs).flatten (List.replicate n vs).flatten
  | 0 => .nil
  | n + 1 => by
    rw [List.replicate_succ, List.replicate_succ, List.flatten_cons, List.flatten_cons]
    exact h.app (RVs.rep h n)
theorem op_mulU {X : Cx} : OpR X (binaryOp .Mult) rMulU := op_mul.or (op_mulW.or op_rep)
theorem sim_mul : Sim2 K rMulU dMul := by
  intro J H M x y v u P Q d rx ry h c
  unfold dMul at h
  split at h
  · cases rx; cases ry
    have q := c _ _ J H M h.2 Ex.rfl' d (.int _)
    rcases h.1 with h1 | h1
    · exact .inl ⟨_, _, rfl, rfl, h1, q⟩
    · exact .inr (.inl ⟨_, _, rfl, rfl, h1, q⟩)
  · cases ry
    obtain ⟨a, h1, h2, h3, h4, h5⟩ := h
    obtain ⟨p, vs, e, hp, r⟩ := h1.get d rx
    exact .inr (.inr ⟨_, _, _, e, rfl, hp, h2, h3, by rw [← r.len]; exact h4, newL d c h5 (r.rep _)⟩)
  · exact h.elim
/-- scalars of one kind at once; else by data -/
def dEqB (f : Bool → Bool) : D2 := fun x y M P => match x, y with
  | .int i, .int j => P (.bl (f (decide (i = j)))) M
  | .str i, .str j => P (.bl (f (decide (i = j)))) M
  | .bl i, .bl j => P (.bl (f (decide (i = j)))) M
  | x, y => ∃ d e, PyOf M x d ∧ PyOf M y e ∧ SeqAt.shaped d = true ∧ SeqAt.shaped e = true ∧ P (.bl (f (PyData.eqv d e))) M
def rEqU (K : PySem.W.Frag) : R2 := fun x y H Q => rEq x y H Q ∨ rEqD K x y H Q
def rNeU (K : PySem.W.Frag) : R2 := fun x y H Q => rNe x y H Q ∨ rNeD K x y H Q
theorem op_eqU {X : Cx} (hu : X.A.units + 64 < cLine) : OpR X (compareOp .Eq) (rEqU X.K) := op_eq.or (op_eqD hu)
theorem op_neU {X : Cx} (hu : X.A.units + 64 < cLine) : OpR X (compareOp .NotEq) (rNeU X.K) := op_ne.or (op_neD hu)
theorem sim_eq : Sim2 K (rEqU K) (dEqB fun b => b) := by
  intro J H M x y v u P Q d rx ry h c
  unfold dEqB at h
  split at h
  · cases rx; cases ry
    refine .inl ⟨rfl, ?_⟩
    rw [show decide (V.int _ = V.int _) = _ from decide_eq_decide.mpr ⟨V.int.inj, congrArg V.int⟩]
    exact c _ _ J H M h Ex.rfl' d (.bl _)
  · cases rx; cases ry
    refine .inl ⟨rfl, ?_⟩
    rw [show decide (V.str _ = V.str _) = _ from decide_eq_decide.mpr ⟨V.str.inj, congrArg V.str⟩]
    exact c _ _ J H M h Ex.rfl' d (.bl _)
  · cases rx; cases ry
    refine .inl ⟨rfl, ?_⟩
    rw [show decide (V.bl _ = V.bl _) = _ from decide_eq_decide.mpr ⟨V.bl.inj, congrArg V.bl⟩]
    exact c _ _ J H M h Ex.rfl' d (.bl _)
  · obtain ⟨a, b, h1, h2, h3, h4, h5⟩ := h
    exact .inr ⟨a, b, h1.dp d rx, h2.dp d ry, h3, h4, c _ _ J H M h5 Ex.rfl' d (.bl _)⟩
theorem sim_ne : Sim2 K (rNeU K) (dEqB fun b => !b) := by
  intro J H M x y v u P Q d rx ry h c
  unfold dEqB at h
  split at h
  · cases rx; cases ry
    refine .inl ⟨rfl, ?_⟩
    rw [show decide (V.int _ = V.int _) = _ from decide_eq_decide.mpr ⟨V.int.inj, congrArg V.int⟩]
    exact c _ _ J H M h Ex.rfl' d (.bl _)
  · cases rx; cases ry
    refine .inl ⟨rfl, ?_⟩
    rw [show decide (V.str _ = V.str _) = _ from decide_eq_decide.mpr ⟨V.str.inj, congrArg V.str⟩]
    exact c _ _ J H M h Ex.rfl' d (.bl _)
  · cases rx; cases ry
    refine .inl ⟨rfl, ?_⟩
    rw [show decide (V.bl _ = V.bl _) = _ from decide_eq_decide.mpr ⟨V.bl.inj, congrArg V.bl⟩]
    exact c _ _ J H M h Ex.rfl' d (.bl _)
  · obtain ⟨a, b, h1, h2, h3, h4, h5⟩ := h
    exact .inr ⟨a, b, h1.dp d rx, h2.dp d ry, h3, h4, c _ _ J H M h5 Ex.rfl' d (.bl _)⟩
def R.v : R → V
  | .non => .non
  | .bl b => .bl b
  | .int i => .int i
  | .str x => .str x
  | _ => .ref 0
theorem atI_rv {rs : List R} {vs : List V} {i : Int} {r : R} (h : RVs K J rs vs) (e : atI rs i = some r) : ∃ v, atI vs i = some v ∧ RV K J r v := by
  unfold atI at e ⊢
  rw [← h.len]
  cases q : ixN rs.length i with
  | none => rw [q] at e; cases e
  | some j =>
    rw [q] at e
    exact h.get (by simpa using e)
def valR {κ : Type} [DecidableEq κ] (kvs : List (κ × R)) (k : κ) : Option R := (kvs.find? fun kv => decide (kv.1 = k)).map (·.2)
def putR {κ : Type} [DecidableEq κ] (kvs : List (κ × R)) (k : κ) (v : R) : List (κ × R) :=
  if (kvs.any fun kv => decide (kv.1 = k)) = true then kvs.map (fun kv => if kv.1 = k then (kv.1, v) else kv) else kvs ++ [(k, v)]
theorem KRV.val {κ : Type} [DecidableEq κ] {k : κ} : ∀ {kvs : List (κ × R)} {ws : List (κ × V)}, KRV K J kvs ws → match valR kvs k, valV ws k with
    | some r, some v => RV K J r v
    | none, none => True
    | _, _ => False
  | _, _, .nil => True.intro
  | _, _, .cons (a := p) (b := q) ⟨e, h⟩ t => by
    unfold valR valV
    rw [List.find?_cons, List.find?_cons, ← e]
    by_cases z : p.1 = k
    · rw [decide_eq_true z]; exact h
    · rw [decide_eq_false z]; exact KRV.val t
theorem KRV.val_some {κ : Type} [DecidableEq κ] {k : κ} {kvs : List (κ × R)} {ws : List (κ × V)} {r : R} (h : KRV K J kvs ws) (e : valR kvs k = some r) : ∃ v, valV ws k = some v ∧ RV K J r v := by
  have q := h.val (k := k)
  rw [e] at q
  cases z : valV ws k with
  | none => rw [z] at q; exact q.elim
  | some v => rw [z] at q; exact ⟨v, rfl, q⟩
theorem KRV.val_none {κ : Type} [DecidableEq κ] {k : κ} {kvs : List (κ × R)} {ws : List (κ × V)} (h : KRV K J kvs ws) (e : valR kvs k = none) : valV ws k = none := by
  have q := h.val (k := k)
  rw [e] at q
  cases z : valV ws k with
  | none => rfl
  | some v => rw [z] at q; exact q.elim
theorem KRV.isSome {κ : Type} [DecidableEq κ] {k : κ} {kvs : List (κ × R)} {ws : List (κ × V)} (h : KRV K J kvs ws) : (valV ws k).isSome = (valR kvs k).isSome := by
  cases e : valR kvs k with
  | none => rw [h.val_none e]; rfl
  | some r => obtain ⟨v, e2, _⟩ := h.val_some e; rw [e2]; rfl
theorem KRV.app {κ : Type} : ∀ {as bs : List (κ × R)} {cs ds : List (κ × V)}, KRV K J as cs → KRV K J bs ds → KRV K J (as ++ bs) (cs ++ ds)
  | _, _, _, _, .nil, h => h
  | _, _, _, _, .cons a t, h => .cons a (KRV.app t h)
theorem KRV.len {κ : Type} : ∀ {as : List (κ × R)} {cs : List (κ × V)}, KRV K J as cs → as.length = cs.length
  | _, _, .nil => rfl
  | _, _, .cons _ t => by rw [List.length_cons, List.length_cons, KRV.len t]
theorem KRV.put {κ : Type} [DecidableEq κ] {k : κ} {r : R} {v : V} {kvs : List (κ × R)} {ws : List (κ × V)} (h : KRV K J kvs ws) (x : RV K J r v) : KRV K J (putR kvs k r) (putK ws k v) := by
  have a : (kvs.any fun kv => decide (kv.1 = k)) = (ws.any fun kv => decide (kv.1 = k)) := by
    unfold KRV at h
    induction h with
    | nil => rfl
    | cons e _ ih => rw [List.any_cons, List.any_cons, ih, e.1]
  have m : KRV K J (kvs.map fun kv => if kv.1 = k then (kv.1, r) else kv) (ws.map fun kv => if kv.1 = k then (kv.1, v) else kv) := by
    unfold KRV at h ⊢
    clear a
    induction h with
    | nil => exact .nil
    | cons e _ ih =>
      rw [List.map_cons, List.map_cons]
      refine .cons ?_ ih
      rw [← e.1]
      split
      · exact ⟨by first | rfl | exact e.1, x⟩
      · exact ⟨by first | rfl | exact e.1, e.2⟩
  unfold putR putK
  rw [a]
  split
  · exact m
  · exact h.app (.cons ⟨rfl, x⟩ .nil)
end
end DL
set_option Elab.async false
set_option linter.all false
set_option maxRecDepth 100000
set_option maxHeartbeats 2000000
namespace DL
open PySem PySem.Spec L2
open PyProof.Rows hiding St
section
variable {K : PySem.W.Frag} {J : Jp} {H : Hp} {M : MH} {P : DP} {Q : VK}
def dIx : D2 := fun x y M P => match x, y with
  | .tup rs, .int i => ∃ r, atI rs i = some r ∧ P r M
  | .pt rs, .int i => ∃ r, atI rs i = some r ∧ P r M
  | .str z, .int i => z.length ≤ sizeLine ∧ ∃ c, atI z.cps.toList i = some c ∧ P (.str ⟨#[c]⟩) M
  | x, .int i => ∃ rs r, LsOf M x rs ∧ atI rs i = some r ∧ P r M
  | _, _ => False
theorem sim_ix : Sim2 K (rIx K) dIx := by
  intro J H M x y v u P Q d rx ry h c
  unfold dIx at h
  split at h
  · cases ry
    cases rx with
    | tup h1 h2 =>
      obtain ⟨r, e, h⟩ := h
      obtain ⟨w, e2, rw_⟩ := atI_rv h2 e
      exact .inr (.inl ⟨_, _, _, w, rfl, rfl, d.ex.sqT h1, e2, c _ _ J H M h Ex.rfl' d rw_⟩)
  · cases ry
    cases rx with
    | pt h0 _ h2 =>
      obtain ⟨r, e, h⟩ := h
      obtain ⟨w, e2, rw_⟩ := atI_rv h2 e
      exact .inr (.inl ⟨_, _, _, w, rfl, rfl, d.ex.sqT (RV.ptT h0), e2, c _ _ J H M h Ex.rfl' d rw_⟩)
  · cases rx; cases ry
    obtain ⟨h1, s, e, h⟩ := h
    exact .inr (.inr ⟨_, _, s, rfl, rfl, h1, e, c _ _ J H M h Ex.rfl' d (.str _)⟩)
  · cases ry
    obtain ⟨rs, r, h1, e, h⟩ := h
    obtain ⟨a, vs, e1, l, rr⟩ := h1.get d rx
    obtain ⟨w, e2, rw_⟩ := atI_rv rr e
    exact .inl ⟨_, _, _, w, e1, rfl, l.sq, e2, c _ _ J H M h Ex.rfl' d rw_⟩
  · exact h.elim
end
section
variable {X : Cx} {W : WW} {pos : Pos}
theorem de_ix {a b : Expr} {wa wb : WE} (ha : DE X W a wa) (hb : DE X W b wb) (hs : PlainIx b := by exact fun _ _ => rfl) : DE X W (.Subscript a b pos) (wOp dIx wa wb) := by
  obtain ⟨ta, pa, sa⟩ := ha
  obtain ⟨tb, pb, sb⟩ := hb
  exact ⟨_, pe_ix ix_seq pa pb hs, Sim.op sim_ix sa sb⟩
def ofB (P : Bool → MH → Prop) : DP := fun r M => match r with
  | .bl b => P b M
  | _ => False
def wTest (w : WE) : WT := fun g M P xw => w g M (ofB P) xw
theorem sim_test {K : PySem.W.Frag} {W : WW} {te : TE} {w : WE} (s : Sim K W te w) : SimT K W (fun σ H Q => te σ H fun x H' => ∃ k, x = .bl k ∧ Q k H') (wTest w) := fun J H σ g M P xw Q d rg h c cx =>
  s J H σ g M _ xw _ d rg h (fun r v J1 H1 M1 p1 e1 d1 r1 => by
    unfold ofB at p1
    split at p1
    · cases r1
      exact ⟨_, rfl, c _ J1 H1 M1 p1 e1 d1⟩
    · exact p1.elim) cx
theorem dt_cmp {op : CmpOp} {r : R2} {f : D2} {a b : Expr} {wa wb : WE} (ho : OpR X (compareOp op) r) (s : Sim2 X.K r f) (ha : DE X W a wa) (hb : DE X W b wb) (hm : behindInMarks op b = false := by rfl) : DT X W (.Compare a [op] [b] pos) (wTest (wOp f wa wb)) := by
  obtain ⟨ta, pa, sa⟩ := ha
  obtain ⟨tb, pb, sb⟩ := hb
  exact ⟨_, pt_cmpR ho pa pb hm, sim_test (sa.op s sb)⟩
theorem dt_val {e : Expr} {w : WE} (h : DE X W e w) (he : ∀ whole, isTrue e X.env whole = (do let v ← whole; standAt e.pos; holding [v] (truthy v)) := by intro _; rfl) : DT X W e (wTest w) := by
  obtain ⟨te, pe, s⟩ := h
  exact ⟨_, pt_val pe he, sim_test s⟩
def wNot (w : WT) : WT := fun g M P xw => w g M (fun b M1 => P (!b) M1) xw
theorem dt_not {e : Expr} {w : WT} (h : DT X W e w) : DT X W (.UnaryOp .Not e pos) (wNot w) := by
  obtain ⟨te, pe, s⟩ := h
  exact ⟨_, pt_not pe, fun J H σ g M P xw Q d rg h c cx => s J H σ g M _ xw _ d rg h (fun b J1 H1 M1 p1 e1 d1 => c _ J1 H1 M1 p1 e1 d1) cx⟩
def wAnd (wa wb : WT) : WT := fun g M P xw => wa g M (fun b M1 => (b = true → wb g M1 P xw) ∧ (b = false → P false M1)) xw
def wOr (wa wb : WT) : WT := fun g M P xw => wa g M (fun b M1 => (b = true → P true M1) ∧ (b = false → wb g M1 P xw)) xw
theorem dw_and1 {a : Expr} {wa : WT} (h : DT X W a wa) : DW X W (.BoolOp .And [a] pos) wa := by
  obtain ⟨te, pe, s⟩ := h
  exact ⟨_, pw_and1 pe, s⟩
theorem dw_or1 {a : Expr} {wa : WT} (h : DT X W a wa) : DW X W (.BoolOp .Or [a] pos) wa := by
  obtain ⟨te, pe, s⟩ := h
  exact ⟨_, pw_or1 pe, s⟩
theorem dw_and {a b : Expr} {rest : List Expr} {wa wb : WT} (h : DT X W a wa) (h2 : DW X W (.BoolOp .And (b :: rest) pos) wb) : DW X W (.BoolOp .And (a :: b :: rest) pos) (wAnd wa wb) := by
  obtain ⟨ta, pa, sa⟩ := h
  obtain ⟨tb, pb, sb⟩ := h2
  refine ⟨_, pw_and pa pb, fun J H σ g M P xw Q d rg h c cx => sa J H σ g M _ xw _ d rg h (fun b J1 H1 M1 p1 e1 d1 => ?_) cx⟩
  cases b with
  | true => exact sb J1 H1 σ g M1 P xw Q d1 (rg.mono e1) (p1.1 rfl) (c.mono e1) (cx.mono e1)
  | false => exact c _ J1 H1 M1 (p1.2 rfl) e1 d1
theorem dw_or {a b : Expr} {rest : List Expr} {wa wb : WT} (h : DT X W a wa) (h2 : DW X W (.BoolOp .Or (b :: rest) pos) wb) : DW X W (.BoolOp .Or (a :: b :: rest) pos) (wOr wa wb) := by
  obtain ⟨ta, pa, sa⟩ := h
  obtain ⟨tb, pb, sb⟩ := h2
  refine ⟨_, pw_or pa pb, fun J H σ g M P xw Q d rg h c cx => sa J H σ g M _ xw _ d rg h (fun b J1 H1 M1 p1 e1 d1 => ?_) cx⟩
  cases b with
  | true => exact c _ J1 H1 M1 (p1.1 rfl) e1 d1
  | false => exact sb J1 H1 σ g M1 P xw Q d1 (rg.mono e1) (p1.2 rfl) (c.mono e1) (cx.mono e1)
theorem DW.dt {e : Expr} {w : WT} (h : DW X W e w) : DT X W e w := by
  obtain ⟨te, pe, s⟩ := h
  exact ⟨te, pe.pt, s⟩
def wNil : WA := fun _ M P _ => P [] M
def wCons (wa : WE) (wr : WA) : WA := fun g M P xw => wa g M (fun r M1 => wr g M1 (fun rs M2 => P (r :: rs) M2) xw) xw
theorem da_nil : DA X W [] wNil := ⟨_, pa_nil, fun J H _ _ M _ _ _ d _ h c _ => c [] [] J H M h rfl Ex.rfl' d .nil⟩
theorem da_cons {e : Expr} {es : List Expr} {wa : WE} {wr : WA} (ha : DE X W e wa) (hr : DA X W es wr) (hs : starEach (e :: es) X.env = (false, eval e X.env) :: starEach es X.env := by rfl) : DA X W (e :: es) (wCons wa wr) := by
  obtain ⟨ta, pa, sa⟩ := ha
  obtain ⟨tr, pr, sr⟩ := hr
  refine ⟨_, pa_cons pa pr hs, fun J H σ g M P xw Q d rg h c cx => sa J H σ g M _ xw _ d rg h (fun r v J1 H1 M1 p1 e1 d1 r1 => ?_) cx⟩
  exact sr J1 H1 σ g M1 _ xw _ d1 (rg.mono e1) p1 (fun rs vs J2 H2 M2 p2 l2 e2 d2 r2 => c _ _ J2 H2 M2 p2 (by rw [List.length_cons, l2]; rfl) (e1.trans e2) d2 (.cons (r1.mono e2) r2)) (cx.mono e1)
def wTup (wa : WA) : WE := fun g M P xw => wa g M (fun rs M1 => P (.tup rs) M1) xw
theorem de_tup {es : List Expr} {x1} {wa : WA} (h : DA X W es wa) (hl : Nat.ble es.length 1000 = true := by rfl) : DE X W (.Tuple es x1 pos) (wTup wa) := by
  obtain ⟨ta, pa, sa⟩ := h
  exact ⟨_, pe_tup pa, fun J H σ g M P xw Q d rg h c cx => sa J H σ g M _ xw _ d rg h (fun rs vs J1 H1 M1 p1 l1 e1 d1 r1 => ⟨by rw [← r1.len, l1]; exact Nat.le_trans (Nat.le_of_ble_eq_true hl) (by decide), newT d1 (c.mono e1) p1 r1⟩) cx⟩
/-- a list that stands -/
def wLst (wa : WA) : WE := fun g M P xw => wa g M (fun rs M1 => P (.lst rs) M1) xw
theorem de_lst {es : List Expr} {wa : WA} (h : DA X W es wa) (hl : Nat.ble es.length 1000 = true := by rfl) : DE X W (.List es pos) (wLst wa) := by
  obtain ⟨ta, pa, sa⟩ := h
  exact ⟨_, pe_lst pa, fun J H σ g M P xw Q d rg h c cx => sa J H σ g M _ xw _ d rg h (fun rs vs J1 H1 M1 p1 l1 e1 d1 r1 => ⟨by rw [← r1.len, l1]; exact Nat.le_trans (Nat.le_of_ble_eq_true hl) (by decide), newL d1 (c.mono e1) p1 r1⟩) cx⟩
/-- a list that will change -/
def wLstO (wa : WA) : WE := fun g M P xw => wa g M (fun rs M1 => ∀ a, M1 a = none → P (.o a) (updM M1 a (.lst rs))) xw
theorem de_lstO {es : List Expr} {wa : WA} (h : DA X W es wa) (hl : Nat.ble es.length 1000 = true := by rfl) : DE X W (.List es pos) (wLstO wa) := by
  obtain ⟨ta, pa, sa⟩ := h
  exact ⟨_, pe_lst pa, fun J H σ g M P xw Q d rg h c cx => sa J H σ g M _ xw _ d rg h (fun rs vs J1 H1 M1 p1 l1 e1 d1 r1 => ⟨by rw [← r1.len, l1]; exact Nat.le_trans (Nat.le_of_ble_eq_true hl) (by decide), newO d1 (c.mono e1) p1 r1⟩) cx⟩
end
end DL
set_option Elab.async false
set_option linter.all false
set_option maxRecDepth 100000
set_option maxHeartbeats 2000000
namespace DL
open PySem PySem.Spec L2
open PyProof.Rows hiding St
structure FnG (P : Program) (w : World) (K : PySem.W.Frag) (mg : Str → Option Value) (base : Heap) (k : Nat) (f : Addr) (fd : FuncData) (ps : List Str) (sp : Sp) : Prop where
  len : ∀ vs H Q E, sp vs H Q E → vs.length = ps.length
  run : ∀ (A : Around) (outer : List Env) (s : Shared) (H : Hp) (args : Args) (us : List Value) (vs : List V) (Q : VK) (E : XK), Room k A → A.guards = some [] → Env0 P w K mg base A outer s H →
    BindsTo s fd args (ps.zip us) → Vals vs us → sp vs H Q E → codeAny (model P w) A (.call (.ref f) args) (CR (L2.CX P w) outer P w H s Q E) s
section
variable {P : Program} {w : World} {K : PySem.W.Frag} {mg : Str → Option Value} {base : Heap} {k : Nat} {f : Addr} {fd : FuncData} {N ps : List Str} {sp : Sp} {x qual : Str} {params : Arguments} {body : List Stmt} {scope : Scope} {dvs : List V} {kws : List (Str × V)}
/-- a def, by its body -/
theorem fng_of (F : FunD K x qual params body scope dvs kws f fd) (S : FnScope N ps scope) (len : ∀ vs H Q E, sp vs H Q E → vs.length = ps.length)
    (hb : ∀ (cdv : Value) (A : Around) (outer : List Env) (s : Shared) (H : Hp) (vs : List V) (Q : VK) (E : XK), Room k (A.deeper (envOfC qual scope s.heap.objs.size f cdv)) → A.guards = some [] → sp vs H Q E →
      ∃ t, PSs (cxOf (L2.CX P w) P w K mg base N qual scope f cdv A outer s H E) body t ∧ t { nx := fun _ H' => Q .non H', rt := Q } (start N vs) H) : FnG P w K mg base (k + 1) f fd ps sp := by
  obtain ⟨oc, od, dV, kV, doc, pm, an, cdv, ct, osl, rfl, lk, hcd, _, _⟩ := F.ex
  constructor
  · exact len
  intro A outer s H args us vs Q E room gd e0 binds rv hsp
  have lenv := len _ _ _ _ hsp
  have kin : K.In s.heap := e0.mod.kin.keeps fun b o z => (e0.bs b o z).1
  have nolim : s.heap.NoLimit := e0.mod.nolimit.keeps fun b o z => (e0.bs b o z).1
  obtain ⟨t, ht, hq⟩ := hb cdv A outer s H vs Q E (room.deeper _) gd hsp
  have kinds : ∀ y ∈ ps.zip us, scope.names.lookup y.1 = some .local ∨ (scope.names.lookup y.1 = some .cell ∧ ((cellsFrom (s.heap.objs.size + 1) scope.names []).lookup y.1).isSome = true) := by
    rintro ⟨n, v⟩ hy
    refine (S.par n (List.of_mem_zip hy).1).imp id fun q => ⟨q, PySem.W.cellsFrom_some _ _ _ (.inl q)⟩
  refine codeAny_call_function room.depth (kin _ _ lk) rfl S.co S.gen rfl (PySem.W.codeRec_of kin hcd) (binds _ _ _ _ (wpAny_newFunctionEnv_cells S.kind kinds ?_))
  rintro env rfl s1 x1
  refine ⟨nolim.keeps x1.toInCall.keep, codeAny_func (wpAny_mono (ht.run [] s1 (start N vs) H _ (inv_start S room.hd e0 lenv rv x1) hq) ?_ fun _ _ z => z)⟩
  intro fl s' hs
  cases fl with
  | ret u =>
    obtain ⟨v, σ', H', I', r', q'⟩ := hs
    exact ⟨v, H', I'.os, I'.bare, I'.base, I'.hok, r', q'⟩
  | next =>
    obtain ⟨σ', H', I', q'⟩ := hs
    exact ⟨V.non, H', I'.os, I'.bare, I'.base, I'.hok, rfl, q'⟩
  | brk => obtain ⟨_, _, _, q'⟩ := hs; exact q'.elim
  | cont => obtain ⟨_, _, _, q'⟩ := hs; exact q'.elim
theorem FnG.mono {j : Nat} (F : FnG P w K mg base j f fd ps sp) (h : j ≤ k) : FnG P w K mg base k f fd ps sp := ⟨F.len, fun A outer s H args us vs Q E r => F.run A outer s H args us vs Q E (r.mono h)⟩
end
/-- a promise over the data layer -/
abbrev DSp := List R → MH → DP → DX → Prop
def enc (K : PySem.W.Frag) (n : Nat) (dsp : DSp) : Sp := fun vs H Q E => vs.length = n ∧ ∃ J M rs P xw, DSt K J H M ∧ RVs K J rs vs ∧ dsp rs M P xw ∧ Cont K J P Q ∧ ContX K J xw E
abbrev DFn (P : Program) (w : World) (K : PySem.W.Frag) (mg : Str → Option Value) (base : Heap) (k : Nat) (f : Addr) (fd : FuncData) (ps : List Str) (dsp : DSp) : Prop := FnG P w K mg base k f fd ps (enc K ps.length dsp)
theorem DFn.imp {P : Program} {w : World} {K : PySem.W.Frag} {mg : Str → Option Value} {base : Heap} {k : Nat} {f : Addr} {fd : FuncData} {ps : List Str} {dsp dsp' : DSp} (F : DFn P w K mg base k f fd ps dsp)
    (h : ∀ rs M Q xw, dsp' rs M Q xw → dsp rs M Q xw) : DFn P w K mg base k f fd ps dsp' :=
  ⟨fun _ _ _ _ q => q.1, fun A outer s H args us vs Q E r g e b v ⟨l, J, M, rs, Pp, xw, d, rv, q, c, cx⟩ => F.run A outer s H args us vs Q E r g e b v ⟨l, J, M, rs, Pp, xw, d, rv, h _ _ _ _ q, c, cx⟩⟩
structure RoomG (k : Nat) (A : Around) : Prop where
  r : Room k A
  g : A.guards = some []
theorem RoomG.mono {j k : Nat} {A : Around} (r : RoomG k A) (h : j ≤ k) : RoomG j A := ⟨r.r.mono h, r.g⟩
theorem RoomG.hu {k : Nat} {A : Around} (r : RoomG k A) : A.units + 64 < cLine := r.r.units
structure DEnds where
  nx : G → MH → Prop
  rt : DP
  xc : Value → Option (List (Str × R)) → G → MH → Prop := fun _ _ _ _ => False
  bk : G → MH → Prop := fun _ _ => False
  ct : G → MH → Prop := fun _ _ => False
def DEnds.wn (D : DEnds) (f : G → MH → Prop) : DEnds := ⟨f, D.rt, D.xc, D.bk, D.ct⟩
def DEnds.wl (D : DEnds) (f : G → MH → Prop) : DEnds := ⟨f, D.rt, D.xc, D.nx, f⟩
abbrev WS := DEnds → G → MH → Prop
def ContG (K : PySem.W.Frag) (J : Jp) (P : G → MH → Prop) (Q : L2.St → Hp → Prop) : Prop := ∀ g σ J' H' M', P g M' → Ex J J' → DSt K J' H' M' → RG K J' g σ → Q σ H'
def ContXG (K : PySem.W.Frag) (J : Jp) (P : Value → Option (List (Str × R)) → G → MH → Prop) (W : WW) : Prop := ∀ cls fs d g σ J' H' M', P cls fs g M' → Ex J J' → DSt K J' H' M' → RG K J' g σ → XD K J' H' d fs → W cls d σ H'
structure Conts (K : PySem.W.Frag) (J : Jp) (D : DEnds) (W : WW) (E : Ends) : Prop where
  nx : ContG K J D.nx E.nx
  rt : Cont K J D.rt E.rt
  bk : ContG K J D.bk E.bk
  ct : ContG K J D.ct E.ct
  xc : ContXG K J D.xc W
section
variable {K : PySem.W.Frag} {J J1 : Jp} {H : Hp} {W : WW}
theorem ContG.mono {P : G → MH → Prop} {Q : L2.St → Hp → Prop} (h : ContG K J P Q) (e : Ex J J1) : ContG K J1 P Q := fun g σ J' H' M' p e' => h g σ J' H' M' p (e.trans e')
theorem ContXG.mono {P : Value → Option (List (Str × R)) → G → MH → Prop} (h : ContXG K J P W) (e : Ex J J1) : ContXG K J1 P W := fun c f d g σ J' H' M' p e' => h c f d g σ J' H' M' p (e.trans e')
theorem Conts.mono {D : DEnds} {E : Ends} (c : Conts K J D W E) (e : Ex J J1) : Conts K J1 D W E := ⟨c.nx.mono e, c.rt.mono e, c.bk.mono e, c.ct.mono e, c.xc.mono e⟩
theorem Conts.x {D : DEnds} {E : Ends} {g : G} {σ : L2.St} (c : Conts K J D W E) (rg : RG K J g σ) : ContX K J (fun cls fs M => D.xc cls fs g M) (fun c d H => W c d σ H) := fun cls fs d J' H' M' p e dd x =>
  c.xc cls fs d g σ J' H' M' p e dd (rg.mono e) x
end
def SimS (K : PySem.W.Frag) (W : WW) (ts : TS) (w : WS) : Prop := ∀ (J : Jp) (H : Hp) (σ : L2.St) (g : G) (M : MH) (D : DEnds) (E : Ends), DSt K J H M → RG K J g σ → w D g M → Conts K J D W E → ts E σ H
structure DS (X : Cx) (W : WW) (st : Stmt) (w : WS) : Prop where
  ex : ∃ ts, PS X st ts ∧ SimS X.K W ts w
structure DSs (X : Cx) (W : WW) (st : List Stmt) (w : WS) : Prop where
  ex : ∃ ts, PSs X st ts ∧ SimS X.K W ts w
/-- an assignment's target -/
abbrev WG := R → G → MH → (G → MH → Prop) → Prop
def SimG (K : PySem.W.Frag) (tg : TG) (w : WG) : Prop := ∀ (J : Jp) (H : Hp) (σ : L2.St) (g : G) (M : MH) (r : R) (v : V) (P : G → MH → Prop) (Q : L2.St → Hp → Prop), DSt K J H M → RG K J g σ → RV K J r v → w r g M P → ContG K J P Q → tg v σ H Q
structure DG (X : Cx) (tg : Expr) (w : WG) : Prop where
  ex : ∃ t, PG X tg t ∧ SimG X.K t w
section
variable {X : Cx} {W : WW} {pos : Pos}
def sNext : WS := fun D g M => D.nx g M
def sSeq (a b : WS) : WS := fun D g M => a (D.wn (b D)) g M
theorem dss_nil : DSs X W [] sNext := ⟨_, pss_nil, fun J H σ g M D E d rg h c => c.nx g σ J H M h Ex.rfl' d rg⟩
theorem dss_cons {st : Stmt} {rest : List Stmt} {a b : WS} (h1 : DS X W st a) (h2 : DSs X W rest b) : DSs X W (st :: rest) (sSeq a b) := by
  obtain ⟨t, p, s⟩ := h1
  obtain ⟨u, q, s2⟩ := h2
  refine ⟨_, pss_cons p q, fun J H σ g M D E d rg h c => s J H σ g M (D.wn (b D)) { E with nx := u E } d rg h ⟨?_, c.rt, c.bk, c.ct, c.xc⟩⟩
  exact fun g' σ' J' H' M' p e d' rg' => s2 J' H' σ' g' M' D E d' rg' p (c.mono e)
def sRet (w : WE) : WS := fun D g M => w g M D.rt (fun c f M' => D.xc c f g M')
theorem ds_ret {e : Expr} {w : WE} (h : DE X W e w) : DS X W (.Return (some e) pos) (sRet w) := by
  obtain ⟨te, pe, s⟩ := h
  exact ⟨_, ps_ret pe, fun J H σ g M D E d rg h c => s J H σ g M _ _ _ d rg h c.rt (c.x rg)⟩
def sIf (wt : WT) (a b : WS) : WS := fun D g M => wt g M (fun k M1 => (k = true → a D g M1) ∧ (k = false → b D g M1)) (fun c f M' => D.xc c f g M')
theorem ds_if {t : Expr} {as bs : List Stmt} {wt : WT} {a b : WS} (ht : DT X W t wt) (ha : DSs X W as a) (hb : DSs X W bs b) : DS X W (.If t as bs pos) (sIf wt a b) := by
  obtain ⟨tt, pt, st⟩ := ht
  obtain ⟨ta, pa, sa⟩ := ha
  obtain ⟨tb, pb, sb⟩ := hb
  refine ⟨_, ps_if pt pa pb, fun J H σ g M D E d rg h c => st J H σ g M _ _ _ d rg h (fun k J1 H1 M1 p1 e1 d1 => ?_) (c.x rg)⟩
  cases k with
  | true => exact sa J1 H1 σ g M1 D E d1 (rg.mono e1) (p1.1 rfl) (c.mono e1)
  | false => exact sb J1 H1 σ g M1 D E d1 (rg.mono e1) (p1.2 rfl) (c.mono e1)
def gSet (i : Nat) : WG := fun r g M P => P (g.set i (some r)) M
theorem dg_name (i : Nat) {x : Str} (hN : X.N.Nodup) (hi : X.N[i]? = some x := by rfl) (hx : Loc X.env.scope x := by first | exact Or.inl rfl | exact Or.inr rfl) (hf : X.fn x = true ∨ X.env.scope.names.lookup x = some .local := by first | exact .inl rfl | exact .inr rfl | assumption) : DG X (.Name x pos) (gSet i) :=
  ⟨_, pg_name hN hi hx hf, fun J H σ g M r v P Q d rg rv h c => c _ _ J H M h Ex.rfl' d (rg.set i rv)⟩
/-- a tuple of names: what they are given -/
abbrev WGs := List R → G → MH → (G → MH → Prop) → Prop
def SimGs (K : PySem.W.Frag) (tg : TGs) (w : WGs) : Prop := ∀ (J : Jp) (H : Hp) (σ : L2.St) (g : G) (M : MH) (rs : List R) (vs : List V) (P : G → MH → Prop) (Q : L2.St → Hp → Prop), DSt K J H M → RG K J g σ → RVs K J rs vs → w rs g M P → ContG K J P Q → tg vs σ H Q
structure DGs (X : Cx) (tg : List Expr) (w : WGs) : Prop where
  ex : ∃ t, PGs X tg t ∧ SimGs X.K t w
def gsNil : WGs := fun rs g M P => match rs with
  | [] => P g M
  | _ => False
def gsCons (a : WG) (b : WGs) : WGs := fun rs g M P => match rs with
  | r :: rs' => a r g M (fun g' M' => b rs' g' M' P)
  | _ => False
theorem dgs_nil : DGs X [] gsNil := ⟨_, pgs_nil, fun J H σ g M rs vs P Q d rg rv h c => by
  unfold gsNil at h
  split at h
  · cases rv; exact ⟨rfl, c _ _ J H M h Ex.rfl' d rg⟩
  · exact h.elim⟩
theorem dgs_cons {e : Expr} {es : List Expr} {a : WG} {b : WGs} (h1 : DG X e a) (h2 : DGs X es b) (hs : (assignEach (e :: es) X.env).map (·.2) = assign e X.env :: (assignEach es X.env).map (·.2) := by rfl) : DGs X (e :: es) (gsCons a b) := by
  obtain ⟨t, p, s⟩ := h1
  obtain ⟨u, q, s2⟩ := h2
  refine ⟨_, pgs_cons p q hs, fun J H σ g M rs vs P Q d rg rv h c => ?_⟩
  unfold gsCons at h
  split at h
  · cases rv with
    | cons r1 r2 => exact ⟨_, _, rfl, s J H σ g M _ _ _ _ d rg r1 h fun g' σ' J' H' M' p' e' d' rg' => s2 J' H' σ' g' M' _ _ _ _ d' rg' (r2.mono e') p' (c.mono e')⟩
  · exact h.elim
def gTupW (n : Nat) (w : WGs) : WG := fun r g M P => match r with
  | .tup rs => rs.length = n ∧ w rs g M P
  | _ => False
theorem dg_tup {es : List Expr} {kk : Nat} {w : WGs} {n : Nat} (hc : X.calm = true) (h : DGs X es w) (hn : (assignEach es X.env).length = n := by rfl) (hst : (assignEach es X.env).findIdx? (·.1) = none := by rfl) : DG X (.Tuple es kk pos) (gTupW n w) := by
  obtain ⟨t, p, s⟩ := h
  refine ⟨_, pg_tup hc p hn hst, fun J H σ g M r v P Q d rg rv h c => ?_⟩
  unfold gTupW at h
  split at h
  · cases rv with
    | tup h1 h2 => exact ⟨_, _, rfl, d.ex.sqT h1, by rw [← h2.len]; exact h.1, s J H σ g M _ _ _ _ d rg h2 h.2 c⟩
  · exact h.elim
def sAsg (w : WE) (t : WG) : WS := fun D g M => w g M (fun r M1 => t r g M1 D.nx) (fun c f M' => D.xc c f g M')
theorem ds_set (i : Nat) {x : Str} {e : Expr} {w : WE} {pos' : Pos} (hN : X.N.Nodup) (he : DE X W e w) (hi : X.N[i]? = some x := by rfl) (hx : Loc X.env.scope x := by first | exact Or.inl rfl | exact Or.inr rfl) (hs : swapsWith e (some (.Name x pos')) pos.line X.env = pure false := by rfl)
    (hf : X.fn x = true ∨ X.env.scope.names.lookup x = some .local := by first | exact .inl rfl | exact .inr rfl | assumption) : DS X W (.Assign [.Name x pos'] e pos) (sAsg w (gSet i)) := by
  obtain ⟨te, pe, s⟩ := he
  exact ⟨_, ps_set hN hi hx pe hs hf, fun J H σ g M D E d rg h c => s J H σ g M _ _ _ d rg h (fun r v J1 H1 M1 p1 e1 d1 r1 => c.nx _ _ J1 H1 M1 p1 e1 d1 ((rg.mono e1).set i r1)) (c.x rg)⟩
/-- a, b = e1, e2 -/
def sPar (i j : Nat) (wa : WA) : WS := fun D g M => wa g M (fun rs M1 => match rs with
  | [r, r'] => D.nx ((g.set i (some r)).set j (some r')) M1
  | _ => False) (fun c f M' => D.xc c f g M')
def sExpr (w : WE) : WS := fun D g M => w g M (fun _ M1 => D.nx g M1) (fun c f M' => D.xc c f g M')
theorem ds_expr {e : Expr} {w : WE} (he : DE X W e w) (hs : swapsWith e none pos.line X.env = pure false := by rfl) : DS X W (.Expr e pos) (sExpr w) := by
  obtain ⟨te, pe, s⟩ := he
  exact ⟨_, ps_expr pe hs, fun J H σ g M D E d rg h c => s J H σ g M _ _ _ d rg h (fun r v J1 H1 M1 p1 e1 d1 r1 => c.nx _ _ J1 H1 M1 p1 e1 d1 (rg.mono e1)) (c.x rg)⟩
def wCall (dsp : DSp) (wa : WA) : WE := fun g M P xw => wa g M (fun rs M1 => dsp rs M1 P xw) xw
theorem run_dfn {k : Nat} {f : Addr} {fd : FuncData} {ps : List Str} {dsp : DSp} (F : DFn X.prog X.w X.K X.mg X.base k f fd ps dsp) (hr : RoomG k X.A) (hb : Binds X.K fd ps []) (tk : Takes X W)
    {pins : List (Addr × Obj)} {σ : L2.St} {J : Jp} {H : Hp} {s : Shared} {Q : VK} {us : List Value} {vs : List V} {rs : List R} {M : MH} {P : DP} {xw : DX} (I : Inv X pins σ H s) (r : Vals vs us) (d : DSt X.K J H M) (rv : RVs X.K J rs vs)
    (hl : rs.length = ps.length) (h : dsp rs M P xw) (c : Cont X.K J P Q) (cx : ContX X.K J xw fun c d H => W c d σ H) : wpAny (model X.prog X.w) X.A (call (.ref f) us) (EP X pins σ Q) X.xe s := by
  have lv : vs.length = ps.length := by rw [← rv.len]; exact hl
  have lu : us.length = ps.length := by rw [← r.length]; exact lv
  have bd := hb s us I.kIn (by rw [List.append_nil]; exact lu)
  rw [List.append_nil] at bd
  refine wpAny_call (codeAny_mono (F.run X.A X.stack s H ⟨us, []⟩ us vs Q (fun c d H => W c d σ H) hr.r hr.g I.env0 bd r ⟨lv, J, M, rs, P, xw, d, rv, h, c, cx⟩) fun z s' hq => ?_)
  cases z with
  | error e => exact passAt tk σ pins H s e s' I hq
  | ok fl =>
    cases fl with
    | ret u => exact I.after hq
    | _ => exact False.elim hq
theorem de_call {k : Nat} {f : Addr} {fd : FuncData} {ps : List Str} {dsp : DSp} {x : Str} {p : Pos} {e : Expr} {es : List Expr} {wa : WA} (F : DFn X.prog X.w X.K X.mg X.base k f fd ps dsp) (hr : RoomG k X.A) (hm : X.mg x = some (.ref f)) (hk : PySem.W.keepIn X.K (.ref f) = true) (hb : Binds X.K fd ps []) (tk : Takes X W)
    (ha : DA X W (e :: es) wa) (hl : (e :: es).length = ps.length := by rfl) (hg : Gl X x := by rfl) (hdb : (x == ("__debug__" : Str)) = false := by decide) (he : starEach (e :: es) X.env = (false, eval e X.env) :: starEach es X.env := by rfl) (hpl : (backTo pos (starEach es X.env)).any (·.1) = false := by rfl) :
    DE X W (.Call (.Name x p) (e :: es) [] pos) (wCall dsp wa) := by
  obtain ⟨ta, pa, sa⟩ := ha
  refine ⟨fun σ H Q => ta σ H fun vs H1 => ∃ J1 M1 rs P xw, DSt X.K J1 H1 M1 ∧ RVs X.K J1 rs vs ∧ rs.length = ps.length ∧ dsp rs M1 P xw ∧ Cont X.K J1 P Q ∧ ContX X.K J1 xw fun c d H => W c d σ H, ⟨fun pins s σ H Q I h => ?_⟩, fun J H σ g M P xw Q d rg h c cx => ?_⟩
  · refine wpAny_Call_Name_kw (ld_glob I hg hm ?_ hdb)
    refine PySem.W.callWith_K (h₀ := X.base) I.ok.mod.kin hk (thn (pa.run pos pins s σ H _ I h) fun us s1 hh => ?_) he hpl
    obtain ⟨vs, H1, I1, r, J1, M1, rs, P, xw, d1, rv, hl1, hd, c, cx⟩ := hh
    exact ⟨I1.kIn, run_dfn F hr hb tk I1 r d1 rv hl1 hd c cx⟩
  · exact sa J H σ g M _ xw _ d rg h (fun rs vs J1 H1 M1 p1 l1 e1 d1 r1 => ⟨J1, M1, rs, P, xw, d1, r1, l1.trans hl, p1, c.mono e1, cx.mono e1⟩) cx
end
/-- a def of the text keeps its promise: by its body, read over the data -/
theorem dfn_of {P : Program} {w : World} {K : PySem.W.Frag} {mg : Str → Option Value} {base : Heap} {k : Nat} {f : Addr} {fd : FuncData} {N ps : List Str} {x qual : Str} {params : Arguments} {body : List Stmt} {scope : Scope} {dvs : List V} {kws : List (Str × V)} {dsp : DSp}
    (F : FunD K x qual params body scope dvs kws f fd) (S : FnScope N ps scope)
    (hb : ∀ (cdv : Value) (A : Around) (outer : List Env) (s : Shared) (H : Hp) (E : XK), RoomG k (cxOf (L2.CX P w) P w K mg base N qual scope f cdv A outer s H E).A → Takes (cxOf (L2.CX P w) P w K mg base N qual scope f cdv A outer s H E) (fun cls d _ H => E cls d H) →
      PassesOwn (model P w) (cxOf (L2.CX P w) P w K mg base N qual scope f cdv A outer s H E).A (cxOf (L2.CX P w) P w K mg base N qual scope f cdv A outer s H E).env (cxOf (L2.CX P w) P w K mg base N qual scope f cdv A outer s H E).xe →
      ∃ ws, DSs (cxOf (L2.CX P w) P w K mg base N qual scope f cdv A outer s H E) (fun cls d _ H => E cls d H) body ws ∧
      ∀ rs M Q xw, dsp rs M Q xw → rs.length = ps.length → ws { nx := fun _ M' => ∃ M1, Sub M1 M' ∧ Q .non M1, rt := fun r M' => ∃ M1, Sub M1 M' ∧ Q r M1, xc := fun c fs _ M' => ∃ M1, Sub M1 M' ∧ xw c fs M1 } (rs.map some ++ List.replicate (N.length - ps.length) none) M) :
    DFn P w K mg base (k + 1) f fd ps dsp := by
  refine fng_of F S (fun _ _ _ _ h => h.1) fun cdv A outer s H vs Q E hr hg hsp => ?_
  obtain ⟨hl, J, M, rs, Pp, xw, d, rv, hd, c, cx⟩ := hsp
  obtain ⟨ws, ⟨t, pt, st⟩, hw⟩ := hb cdv A outer s H E ⟨hr, hg⟩ (takes_of rfl rfl rfl rfl) (passes_of rfl)
  have lr : rs.length = ps.length := by rw [rv.len]; exact hl
  refine ⟨t, pt, st J H _ _ M _ _ d ?_ (hw rs M Pp xw hd lr) ⟨?_, ?_, fun _ _ _ _ _ z => z.elim, fun _ _ _ _ _ z => z.elim, ?_⟩⟩
  · refine ⟨?_, fun i r e => ?_⟩
    · unfold L2.start
      rw [List.length_append, List.length_append, List.length_map, List.length_map, List.length_replicate, List.length_replicate, hl, lr]
    · have hi : i < rs.length := by
        by_cases z : i < rs.length
        · exact z
        · rw [List.getElem?_append_right (by rw [List.length_map]; omega), List.getElem?_replicate] at e
          split at e <;> cases e
      rw [List.getElem?_append_left (by rw [List.length_map]; exact hi), List.getElem?_map] at e
      obtain ⟨r', e1, e2⟩ := Option.map_eq_some_iff.mp e
      cases e2
      obtain ⟨v, e3, rr⟩ := rv.get e1
      refine ⟨v, ?_, rr⟩
      unfold L2.start
      rw [List.getElem?_append_left (by rw [List.length_map, ← rv.len]; exact hi), List.getElem?_map, e3]
      rfl
  · rintro g σ J' H' M' ⟨M1, sb, q⟩ e d' _
    exact c .non .non J' H' M1 q e (d'.sub sb) .non
  · rintro r v J' H' M' ⟨M1, sb, q⟩ e d' rv'
    exact c r v J' H' M1 q e (d'.sub sb) rv'
  · rintro cls fs dd g σ J' H' M' ⟨M1, sb, q⟩ e d' _ x
    exact cx cls fs dd J' H' M1 q e (d'.sub sb) x
end DL
set_option Elab.async false
set_option linter.all false
set_option maxRecDepth 100000
set_option maxHeartbeats 2000000
namespace DL
open PySem PySem.Spec L2
open PyProof.Rows hiding St
section
variable {X : Cx} {W : WW} {pos : Pos}
theorem ds_par (i j : Nat) {x y : Str} {a b : Expr} {wa : WA} {px py pt : Pos} {kt k2 pt2} (hc : X.calm = true) (hN : X.N.Nodup) (ha : DA X W [a, b] wa) (hij : i ≠ j := by decide) (hi : X.N[i]? = some x := by rfl) (hj : X.N[j]? = some y := by rfl)
    (hx : X.env.scope.names.lookup x = some .local := by rfl) (hy : X.env.scope.names.lookup y = some .local := by rfl) (hw : swappedStores [.Tuple [.Name x px, .Name y py] kt pt] (.Tuple [a, b] k2 pt2) X.env = pure (some [x, y]) := by rfl)
    (hs : swapsWithSole [.Tuple [.Name x px, .Name y py] kt pt] (.Tuple [a, b] k2 pt2) pos.line X.env = pure false := by rfl) : DS X W (.Assign [.Tuple [.Name x px, .Name y py] kt pt] (.Tuple [a, b] k2 pt2) pos) (sPar i j wa) := by
  obtain ⟨ta, pa, sa⟩ := ha
  refine ⟨_, ps_par hc hN hi hj hij hx hy pa hw hs, fun J H σ g M D E d rg h c => sa J H σ g M _ _ _ d rg h (fun rs vs J1 H1 M1 p1 l1 e1 d1 r1 => ?_) (c.x rg)⟩
  split at p1
  · cases r1 with
    | cons q1 t =>
      cases t with
      | cons q2 t2 =>
        cases t2
        exact ⟨_, _, rfl, c.nx _ _ J1 H1 M1 p1 e1 d1 (((rg.mono e1).set i q1).set j q2)⟩
  · exact p1.elim
end
structure Wk (K : PySem.W.Frag) (it : It) (J0 : Jp) (rs : List R) : Prop where
  go : ∀ (i : Nat) (r : R) (J : Jp) (H : Hp) (M : MH), rs[i]? = some r → ExH J0.j J.j → DSt K J H M → it.go i H ∧ ∀ x H', it.yld i H x H' → ∃ J', Ex J J' ∧ DSt K J' H' M ∧ RV K J' r x
  stop : ∀ (J : Jp) (H : Hp) (M : MH), ExH J0.j J.j → DSt K J H M → it.stop rs.length H
abbrev WI := G → MH → (List R → MH → Prop) → DX → Prop
def SimI (K : PySem.W.Frag) (W : WW) (wi : TI) (w : WI) : Prop := ∀ (J : Jp) (H : Hp) (σ : L2.St) (g : G) (M : MH) (P : List R → MH → Prop) (xw : DX) (Q : It → Hp → Prop), DSt K J H M → RG K J g σ → w g M P xw →
  (∀ rs it J' H' M', P rs M' → Ex J J' → DSt K J' H' M' → Wk K it J' rs → Q it H') → ContX K J xw (fun c d H => W c d σ H) → wi σ H Q
structure DI (X : Cx) (W : WW) (tg iter : Expr) (w : WI) : Prop where
  ex : ∃ t, PI X tg iter t ∧ SimI X.K W t w
section
variable {K : PySem.W.Frag}
theorem SqL.get {pins : List (Addr × Obj)} {J J' : Hp} {a : Addr} {vs : List V} (e : ExH J J') (h : J a = some (.lst vs)) : SqL K J' a vs := .inl (.inl (e _ _ h))
theorem wk_lst {J0 : Jp} {a : Addr} {vs : List V} {rs : List R} (h : J0.j a = some (.lst vs)) (r : RVs K J0 rs vs) : Wk K (Itl K a) J0 rs where
  go := fun i q J H M e x d => by
    obtain ⟨v, h1, h2⟩ := r.get e
    have sq : SqL K H a vs := .inl (.inl (d.ex _ _ (x _ _ h)))
    refine ⟨⟨vs, v, sq, h1⟩, fun y H' z => ?_⟩
    obtain ⟨rfl, z⟩ := z
    have z2 := z vs sq
    rw [h1] at z2; cases z2
    exact ⟨J, Ex.rfl', d, h2.mj x⟩
  stop := fun J H M x d => ⟨vs, .inl (.inl (d.ex _ _ (x _ _ h))), by rw [r.len]; exact Nat.le_refl _⟩
theorem wk_scr {J0 : Jp} {a : Addr} {ns : List Int} (h : Ls K J0.j a (ns.map V.int)) : Wk K (Itl K a) J0 (ns.map R.int) where
  go := fun i q J H M e x d => by
    obtain ⟨v, h1, h2⟩ := (ints_rvs (K := K) (J := J0) ns).get e
    have sq : SqL K H a (ns.map V.int) := (d.ex.ls (x.ls h)).sq
    refine ⟨⟨_, v, sq, h1⟩, fun y H' z => ?_⟩
    obtain ⟨rfl, z⟩ := z
    have z2 := z _ sq
    rw [h1] at z2; cases z2
    exact ⟨J, Ex.rfl', d, h2.mj x⟩
  stop := fun J H M x d => ⟨_, (d.ex.ls (x.ls h)).sq, by simp⟩
def intsFrom (lo : Int) (n : Nat) : List R := (List.range n).map fun (i : Nat) => R.int (lo + (i : Int))
theorem intsFrom_len (lo : Int) (n : Nat) : (intsFrom lo n).length = n := by simp [intsFrom]
theorem intsFrom_get {lo : Int} {n i : Nat} {r : R} (h : (intsFrom lo n)[i]? = some r) : i < n ∧ r = .int (lo + (i : Int)) := by
  unfold intsFrom at h
  rw [List.getElem?_map] at h
  obtain ⟨j, h1, h2⟩ := Option.map_eq_some_iff.mp h
  obtain ⟨h3, h4⟩ := List.getElem?_eq_some_iff.mp h1
  rw [List.getElem_range] at h4
  rw [List.length_range] at h3
  subst h4
  exact ⟨h3, h2.symm⟩
theorem wk_rng {J0 : Jp} {lo : Int} {n : Nat} : Wk K (Itr lo n) J0 (intsFrom lo n) where
  go := fun i q J H M e x d => by
    obtain ⟨h1, h2⟩ := intsFrom_get e
    subst h2
    refine ⟨h1, fun y H' z => ?_⟩
    obtain ⟨rfl, rfl⟩ := z
    exact ⟨J, Ex.rfl', d, .int _⟩
  stop := fun J H M x d => by rw [intsFrom_len]; exact Nat.le_refl n
def zipR (as bs : List R) : List R := (as.zip bs).map fun p => R.tup [p.1, p.2]
theorem zipR_len (as bs : List R) : (zipR as bs).length = min as.length bs.length := by simp [zipR]
theorem zipR_get {as bs : List R} {i : Nat} {r : R} (h : (zipR as bs)[i]? = some r) : ∃ x y, as[i]? = some x ∧ bs[i]? = some y ∧ r = .tup [x, y] := by
  unfold zipR at h
  rw [List.getElem?_map] at h
  obtain ⟨p, h1, h2⟩ := Option.map_eq_some_iff.mp h
  obtain ⟨h3, h4⟩ := List.getElem?_zip_eq_some.mp h1
  exact ⟨p.1, p.2, h3, h4, h2.symm⟩
theorem new_pair {J : Jp} {H : Hp} {M : MH} {T : Addr} {x y : V} {r q : R} (d : DSt K J H M) (hT : H T = none) (h1 : RV K J r x) (h2 : RV K J q y) : ∃ J', Ex J J' ∧ DSt K J' (upd H T (.tup [x, y])) M ∧ RV K J' (.tup [r, q]) (.ref T) :=
  ⟨J.put T (.tup [x, y]), Ex.new (d.jnone hT), d.new hT, .tup (.inl (.inl upd_same)) (.cons (h1.mono (Ex.new (d.jnone hT))) (.cons (h2.mono (Ex.new (d.jnone hT))) .nil))⟩
theorem wk_zip {J0 : Jp} {a b : Addr} {vs us : List V} {rs qs : List R} (h : J0.j a = some (.lst vs)) (r : RVs K J0 rs vs) (h2 : J0.j b = some (.lst us)) (r2 : RVs K J0 qs us) : Wk K (Itz K a b) J0 (zipR rs qs) where
  go := fun i q J H M e x d => by
    obtain ⟨r', q', e1, e2, rfl⟩ := zipR_get e
    obtain ⟨v, g1, g2⟩ := r.get e1
    obtain ⟨u, g3, g4⟩ := r2.get e2
    have sq : SqL K H a vs := .inl (.inl (d.ex _ _ (x _ _ h)))
    have sq2 : SqL K H b us := .inl (.inl (d.ex _ _ (x _ _ h2)))
    refine ⟨⟨vs, us, v, u, sq, sq2, g1, g3⟩, fun y H' z => ?_⟩
    obtain ⟨T, x', y', rfl, hT, rfl, z1, z2⟩ := z
    have z3 := z1 vs sq
    have z4 := z2 us sq2
    rw [g1] at z3; cases z3
    rw [g3] at z4; cases z4
    exact new_pair d hT (g2.mj x) (g4.mj x)
  stop := fun J H M x d => ⟨vs, us, .inl (.inl (d.ex _ _ (x _ _ h))), .inl (.inl (d.ex _ _ (x _ _ h2))), by rw [zipR_len, r.len, r2.len]; omega⟩
end
end DL
set_option Elab.async false
set_option linter.all false
set_option maxRecDepth 100000
set_option maxHeartbeats 2000000
namespace DL
open PySem PySem.Spec L2
open PyProof.Rows hiding St
section
variable {X : Cx} {W : WW} {pos : Pos}
/-- of a list that stands, of the script, of a list that is done with (it is out of M then), of a tuple -/
def eraseM (M : MH) (a : Addr) : MH := fun b => if b = a then none else M b
theorem eraseM_sub {M : MH} {a : Addr} : Sub (eraseM M a) M := fun b m e => by
  unfold eraseM at e
  split at e
  · cases e
  · exact e
theorem eraseM_same {M : MH} {a : Addr} : eraseM M a a = none := if_pos rfl
def srcL (w : WE) : WI := fun g M P xw => w g M (fun r M1 => match r with
  | .lst rs => P rs M1
  | .scr ns => P (ns.map R.int) M1
  | .o a => ∃ rs, M1 a = some (.lst rs) ∧ P rs (eraseM M1 a)
  | _ => False) xw
theorem di_list {tg e : Expr} {w : WE} (h : DE X W e w) : DI X W tg e (srcL w) := by
  obtain ⟨te, pe, s⟩ := h
  refine ⟨_, pi_list pe, fun J H σ g M P xw Q d rg h c cx => s J H σ g M _ xw _ d rg h (fun r v J1 H1 M1 p1 e1 d1 r1 => ?_) cx⟩
  split at p1
  · cases r1 with
    | lst q1 q2 => exact ⟨_, rfl, ⟨_, .inl (.inl (d1.ex _ _ q1))⟩, c _ _ J1 H1 M1 p1 e1 d1 (wk_lst q1 q2)⟩
  · cases r1 with
    | scr q1 => exact ⟨_, rfl, ⟨_, (d1.ex.ls q1).sq⟩, c _ _ J1 H1 M1 p1 e1 d1 (wk_scr q1)⟩
  · obtain ⟨rs, q1, q2⟩ := p1
    cases r1
    obtain ⟨J2, e2, d2, r2⟩ := d1.freeze q1 eraseM_sub eraseM_same
    cases r2 with
    | lst q3 q4 => exact ⟨_, rfl, ⟨_, .inl (.inl (d2.ex _ _ q3))⟩, c _ _ J2 H1 _ q2 (e1.trans e2) d2 (wk_lst q3 q4)⟩
  · exact p1.elim
def srcR1 (w : WE) : WI := fun g M P xw => w g M (fun r M1 => match r with
  | .int n => (-(2 ^ 62) ≤ n ∧ n < 2 ^ 62) ∧ P (intsFrom 0 n.toNat) M1
  | _ => False) xw
theorem di_range1 {tg e : Expr} {p : Pos} {w : WE} (hm : X.mg "range" = none) (h : DE X W e w) (hg : Gl X "range" := by rfl) (hs : starEach [e] X.env = [(false, eval e X.env)] := by rfl) : DI X W tg (.Call (.Name "range" p) [e] [] pos) (srcR1 w) := by
  obtain ⟨te, pe, s⟩ := h
  refine ⟨_, pi_range1 hg hm (pa_cons pe pa_nil hs) hs, fun J H σ g M P xw Q d rg h c cx => s J H σ g M _ xw _ d rg h (fun r v J1 H1 M1 p1 e1 d1 r1 => ?_) cx⟩
  split at p1
  · cases r1
    exact ⟨_, rfl, p1.1.1, p1.1.2, c _ _ J1 H1 M1 p1.2 e1 d1 wk_rng⟩
  · exact p1.elim
/-- zip of two lists, enumerate of a list: these stand -/
def srcZ (wa wb : WE) : WI := fun g M P xw => wa g M (fun r M1 => wb g M1 (fun r2 M2 => match r, r2 with
  | .lst as, .lst bs => P (zipR as bs) M2
  | _, _ => False) xw) xw
theorem di_zip {elts : List Expr} {kk : Nat} {tpos : Pos} {a b : Expr} {p : Pos} {wa wb : WE} (hm : X.mg "zip" = none) (ha : DE X W a wa) (hb : DE X W b wb) (hg : Gl X "zip" := by rfl) (hs : starEach [a, b] X.env = (false, eval a X.env) :: starEach [b] X.env := by rfl) (hs2 : starEach [b] X.env = [(false, eval b X.env)] := by rfl)
    (hpl : (backTo pos (starEach [b] X.env)).any (·.1) = false := by rfl) : DI X W (.Tuple elts kk tpos) (.Call (.Name "zip" p) [a, b] [] pos) (srcZ wa wb) := by
  obtain ⟨ta, pa, sa⟩ := ha
  obtain ⟨tb, pb, sb⟩ := hb
  refine ⟨_, pi_zip hg hm (pa_cons pa (pa_cons pb pa_nil hs2) hs) hs hpl, fun J H σ g M P xw Q d rg h c cx => sa J H σ g M _ xw _ d rg h (fun r v J1 H1 M1 p1 e1 d1 r1 => ?_) cx⟩
  refine sb J1 H1 σ g M1 _ xw _ d1 (rg.mono e1) p1 (fun r' v' J2 H2 M2 p2 e2 d2 r2 => ?_) (cx.mono e1)
  split at p2
  · cases r1 with
    | lst q1 q2 =>
      cases r2 with
      | lst q3 q4 => exact ⟨_, _, _, _, rfl, .inl (.inl (d2.ex _ _ (e2.1 _ _ q1))), .inl (.inl (d2.ex _ _ q3)), c _ _ J2 H2 M2 p2 (e1.trans e2) d2 (wk_zip (e2.1 _ _ q1) (q2.mono e2) q3 q4)⟩
  · exact p2.elim
def sFor (wi : WI) (wg : WG) (wb : WS) : WS := fun D g M => wi g M (fun rs M1 => ∃ Inv : Nat → G → MH → Prop, Inv 0 g M1 ∧
  (∀ i r g' M', rs[i]? = some r → Inv i g' M' → wg r g' M' (fun g2 M2 => wb (D.wl (Inv (i + 1))) g2 M2)) ∧ (∀ g' M', Inv rs.length g' M' → D.nx g' M')) (fun c f M' => D.xc c f g M')
theorem ds_for {tg iter : Expr} {body : List Stmt} {wi : WI} {wg : WG} {wb : WS} (hp : PassesOwn (model X.prog X.w) X.A X.env X.xe) (hc : X.calm = true) (hi : DI X W tg iter wi) (hg : DG X tg wg) (hb : DSs X W body wb)
    (hs : ∀ x, foldedSetIterable iter X.env x = pure x := by intro _; rfl) : DS X W (.For tg iter body [] pos) (sFor wi wg wb) := by
  obtain ⟨ti, pi, si⟩ := hi
  obtain ⟨tt, pt, st⟩ := hg
  obtain ⟨tb, pb, sb⟩ := hb
  refine ⟨_, ps_for hp hc pi pt pb hs, fun J H σ g M D E d rg h c => si J H σ g M _ _ _ d rg h (fun rs it J1 H1 M1 p1 e1 d1 wk => ?_) (c.x rg)⟩
  obtain ⟨Inv, i0, turn, done⟩ := p1
  refine ⟨fun i m σ' H' => m = rs.length - i ∧ i ≤ rs.length ∧ ∃ J' g' M', Ex J1 J' ∧ DSt X.K J' H' M' ∧ RG X.K J' g' σ' ∧ Inv i g' M', ⟨_, rfl, Nat.zero_le _, J1, g, M1, Ex.rfl', d1, rg.mono e1, i0⟩, ?_⟩
  rintro i m σ' H' ⟨rfl, hi, J', g', M', e2, d2, rg2, inv⟩
  by_cases lt : i < rs.length
  · obtain ⟨go, yl⟩ := wk.go i rs[i] J' H' M' (by simp [lt]) e2.1 d2
    refine .inr ⟨go, fun σ2 H2 => ∃ J2 g2 M2, Ex J1 J2 ∧ DSt X.K J2 H2 M2 ∧ RG X.K J2 g2 σ2 ∧ Inv (i + 1) g2 M2, fun σ2 H2 q => ⟨_, ?_, rfl, lt, q⟩, fun x H2 y => ?_⟩
    · show rs.length - (i + 1) < rs.length - i
      omega
    obtain ⟨J3, e3, d3, r3⟩ := yl x H2 y
    have k := turn i rs[i] g' M' (by simp [lt]) inv
    refine st J3 H2 σ' g' M' rs[i] x _ _ d3 (rg2.mono e3) r3 k fun g4 σ4 J4 H4 M4 p4 e4 d4 rg4 => ?_
    have e14 : Ex J J4 := ((e1.trans e2).trans e3).trans e4
    refine sb J4 H4 σ4 g4 M4 _ _ d4 rg4 p4 ⟨?_, c.rt.mono e14, c.nx.mono e14, ?_, c.xc.mono e14⟩
    · exact fun g5 σ5 J5 H5 M5 p5 e5 d5 rg5 => ⟨J5, g5, M5, ((e2.trans e3).trans e4).trans e5, d5, rg5, p5⟩
    · exact fun g5 σ5 J5 H5 M5 p5 e5 d5 rg5 => ⟨J5, g5, M5, ((e2.trans e3).trans e4).trans e5, d5, rg5, p5⟩
  · have z : i = rs.length := by omega
    subst z
    exact .inl ⟨wk.stop J' H' M' e2.1 d2, c.nx g' σ' J' H' M' (done g' M' inv) (e1.trans e2) d2 rg2⟩
end
end DL
set_option Elab.async false
set_option linter.all false
set_option maxRecDepth 100000
set_option maxHeartbeats 2000000
namespace DL
open PySem PySem.Spec L2
open PyProof.Rows hiding St
def encE (K : PySem.W.Frag) (W : WW) (w : WE) : TE := fun σ H Q => ∃ J g M P xw, DSt K J H M ∧ RG K J g σ ∧ w g M P xw ∧ Cont K J P Q ∧ ContX K J xw (fun c d H => W c d σ H)
def encT (K : PySem.W.Frag) (W : WW) (w : WT) : TT := fun σ H Q => ∃ J g M P xw, DSt K J H M ∧ RG K J g σ ∧ w g M P xw ∧ ContB K J P Q ∧ ContX K J xw (fun c d H => W c d σ H)
section
variable {X : Cx} {W : WW} {pos : Pos}
theorem DE.pe {e : Expr} {w : WE} (h : DE X W e w) : PE X e (encE X.K W w) := by
  obtain ⟨te, pe, s⟩ := h
  exact ⟨fun pins s1 σ H Q I ⟨J, g, M, P, xw, d, rg, hw, c, cx⟩ => pe.run pins s1 σ H Q I (s J H σ g M P xw Q d rg hw c cx)⟩
theorem DT.pt {e : Expr} {w : WT} (h : DT X W e w) : PT X e (encT X.K W w) := by
  obtain ⟨te, pe, s⟩ := h
  exact ⟨fun pins s1 σ H Q I ⟨J, g, M, P, xw, d, rg, hw, c, cx⟩ => pe.run pins s1 σ H Q I (s J H σ g M P xw Q d rg hw c cx)⟩
end
abbrev noX : DX := fun _ _ _ => False
theorem noX_cont {K : PySem.W.Frag} {J : Jp} {E : EW} : ContX K J noX E := fun _ _ _ _ _ _ p => p.elim
abbrev W0 : WW := fun _ _ _ _ => False
theorem wipe_out' {σ : L2.St} {j : Nat} : ∀ {vs : List Nat}, j ∉ vs → (L2.wipe σ vs)[j]? = σ[j]?
  | [], _ => rfl
  | v :: vs, h => by
    unfold L2.wipe
    rw [List.getElem?_set_ne (fun z => h (by rw [z]; exact List.mem_cons_self)), wipe_out' fun z => h (List.mem_cons_of_mem _ z)]
theorem wipe_in {σ : L2.St} {j : Nat} (l : j < σ.length) : ∀ {vs : List Nat}, j ∈ vs → (L2.wipe σ vs)[j]? = some none
  | v :: vs, h => by
    unfold L2.wipe
    by_cases z : v = j
    · subst z
      rw [List.getElem?_set_self (by rw [L2.wipe_length]; exact l)]
    · rw [List.getElem?_set_ne z]
      exact wipe_in l ((List.mem_cons.mp h).resolve_left fun q => z q.symm)
theorem wipe_ext {σ σ' : L2.St} {vs : List Nat} (hl : σ'.length = σ.length) (h : ∀ j, j ∉ vs → σ'[j]? = (L2.wipe σ vs)[j]?) : L2.wipe σ' vs = L2.wipe σ vs := by
  apply List.ext_getElem?
  intro j
  by_cases z : j ∈ vs
  · by_cases l : j < σ.length
    · rw [wipe_in l z, wipe_in (by omega) z]
    · rw [List.getElem?_eq_none (by rw [L2.wipe_length]; omega), List.getElem?_eq_none (by rw [L2.wipe_length]; omega)]
  · rw [wipe_out' z, h j z]
theorem nin {i j : Nat} {vs : List Nat} (h : i ∈ vs) (hj : j ∉ vs) : i ≠ j := fun z => hj (by rw [← z]; exact h)
theorem wipe_set2 {σ : L2.St} {vs : List Nat} {i j : Nat} {x y : Option V} (h : i ∈ vs) (h2 : j ∈ vs) : L2.wipe (((L2.wipe σ vs).set i x).set j y) vs = L2.wipe σ vs :=
  wipe_ext (by rw [List.length_set, List.length_set, L2.wipe_length]) fun k hk => by
    rw [List.getElem?_set_ne (nin h2 hk), List.getElem?_set_ne (nin h hk)]
/-- a target in a comprehension: its store, read over the data, keeps to its own names -/
structure SimC (K : PySem.W.Frag) (vs : List Nat) (t : TG) (w : WG) : Prop where
  run : ∀ (J : Jp) (H : Hp) (σ : L2.St) (g : G) (M : MH) (r : R) (v : V) (P : G → MH → Prop) (Q : L2.St → Hp → Prop), DSt K J H M → RG K J (wipeG g vs) (L2.wipe σ vs) → RV K J r v → w r (wipeG g vs) M P →
    (∀ g' σ' J' H' M', P g' M' → Ex J J' → DSt K J' H' M' → RG K J' g' σ' → L2.wipe σ' vs = L2.wipe σ vs → Q σ' H') → t v (L2.wipe σ vs) H Q
theorem two_of {K : PySem.W.Frag} {J : Jp} {rs : List R} {vs : List V} (q : RVs K J rs vs) (hl : rs.length = 2) : ∃ r1 r2 v1 v2, rs = [r1, r2] ∧ vs = [v1, v2] ∧ RV K J r1 v1 ∧ RV K J r2 v2 := by
  cases q with
  | nil => cases hl
  | cons a q =>
    cases q with
    | nil => cases hl
    | cons b q =>
      cases q with
      | nil => exact ⟨_, _, _, _, rfl, rfl, a, b⟩
      | cons c q => simp at hl
theorem simc2 {K : PySem.W.Frag} {vs : List Nat} {i j : Nat} (h : i ∈ vs) (h2 : j ∈ vs) : SimC K vs (gTup K 2 (gCons (gName i) (gCons (gName j) gNil))) (gTupW 2 (gsCons (gSet i) (gsCons (gSet j) gsNil))) := by
  constructor
  intro J H σ g M r v P Q d rg rv hw c
  unfold gTupW at hw
  split at hw
  · obtain ⟨hl, hw⟩ := hw
    cases rv with
    | tup q1 q2 =>
      obtain ⟨r1, r2, v1, v2, rfl, rfl, h1, h2'⟩ := two_of q2 hl
      exact ⟨_, _, rfl, d.ex.sqT q1, rfl, _, _, rfl, _, _, rfl, rfl, c _ _ J H M hw Ex.rfl' d ((rg.set i h1).set j h2') (wipe_set2 h h2)⟩
  · exact hw.elim
/-- [e for tg in iter if t], all told: which list, is shown by a word of the turn, what is made so far, what may change -/
def wLc (wi : WI) (wg : WG) (wt : WT) (we : WE) (vs : List Nat) : WE := fun g M P xw => wi g M (fun rs M1 => rs.length < sizeLine ∧ ∃ Inv : Nat → List R → MH → Prop, Inv 0 [] M1 ∧
  (∀ i r acc M', rs[i]? = some r → acc.length ≤ i → Inv i acc M' → wg r (wipeG g vs) M' (fun g2 M2 => wt g2 M2 (fun b M3 => (b = true → we g2 M3 (fun e M4 => Inv (i + 1) (acc ++ [e]) M4) noX) ∧ (b = false → Inv (i + 1) acc M3)) noX)) ∧
  (∀ acc M', acc.length ≤ rs.length → Inv rs.length acc M' → P (.lst acc) M')) xw
section
variable {K : PySem.W.Frag}
theorem MOk.mj {J J' : Jp} {H H' : Hp} {a : Addr} {m : MO} (e : ExH J.j J'.j) (h : H' a = H a) (x : MOk K J H a m) : MOk K J' H' a m := by
  cases m with
  | lst rs => exact let ⟨vs, q, b⟩ := x; ⟨vs, h.trans q, b.mj e⟩
  | dK kvs => exact let ⟨vs, q, b⟩ := x; ⟨vs, h.trans q, b.mj e⟩
  | ins C fs => exact let ⟨dx, vs, q, b⟩ := x; ⟨dx, vs, h.trans q, b.mj e⟩
  | dr => exact let ⟨ns, t, l, u, h0, vs, q, b⟩ := x; ⟨ns, t, l, u, h0, vs, h.trans q, b.mj e⟩
  | fK => exact ⟨h.trans x.1, x.2.mj e⟩
def Jp.keep (J : Jp) (p : Addr) (o : HO) : Jp := ⟨J.j, upd J.f p o⟩
theorem DSt.keep {J : Jp} {H : Hp} {M : MH} {p : Addr} {o : HO} (d : DSt K J H M) (h : H p = some o) (hj : J.j p = none) (hm : M p = none) : DSt K (J.keep p o) H M := by
  refine ⟨d.ex, fun a q e => ?_, fun a q e => ?_, fun a m e => ?_, fun a m e => ?_⟩
  · have e' : upd J.f p o a = some q := e
    by_cases z : a = p
    · rw [z, upd_same] at e'; rw [z, h, e']
    · rw [upd_ne z] at e'; exact d.fr _ _ e'
  · have e' : upd J.f p o a = some q := e
    by_cases z : a = p
    · rw [z]; exact hj
    · rw [upd_ne z] at e'; exact d.fj _ _ e'
  · have n : a ≠ p := fun z => by rw [z, hm] at e; cases e
    refine ⟨(d.no a m e).1, ?_⟩
    show upd J.f p o a = none
    rw [upd_ne n]; exact (d.no a m e).2
  · exact MOk.mj (J := J) (J' := J.keep p o) (fun _ _ z => z) rfl (d.mo a m e)
theorem DSt.drop {J J' : Jp} {H : Hp} {M : MH} {p : Addr} {o o' : HO} (d : DSt K J' H M) (e : Ex (J.keep p o) J') (hn : M p = none) (hf : J.f p = none) : Ex J ⟨J'.j, J.f⟩ ∧ DSt K ⟨J'.j, J.f⟩ (upd H p o') M := by
  have ef : J'.f = upd J.f p o := e.2
  have fp : J'.f p = some o := by rw [ef, upd_same]
  have jp : J'.j p = none := d.fj p o fp
  refine ⟨⟨e.1, rfl⟩, fun a q z => ?_, fun a q z => ?_, fun a q z => ?_, fun a m z => ?_, fun a m z => ?_⟩
  · have z' : J'.j a = some q := z
    rw [upd_ne (ne_of_none z' jp)]; exact d.ex _ _ z'
  · have z' : J.f a = some q := z
    have n := ne_of_none z' hf
    rw [upd_ne n]; exact d.fr _ _ (by rw [ef, upd_ne n]; exact z')
  · have z' : J.f a = some q := z
    exact d.fj a q (by rw [ef, upd_ne (ne_of_none z' hf)]; exact z')
  · have n : a ≠ p := fun w => by rw [w, hn] at z; cases z
    refine ⟨(d.no a m z).1, ?_⟩
    have := (d.no a m z).2
    rw [ef, upd_ne n] at this
    exact this
  · have n : a ≠ p := fun w => by rw [w, hn] at z; cases z
    exact MOk.mj (J := J') (J' := ⟨J'.j, J.f⟩) (fun _ _ z => z) (upd_ne n) (d.mo a m z)
theorem RV.jf {J J' : Jp} {r : R} {v : V} (h : RV K J r v) (e : J'.j = J.j) : RV K J' r v := h.mj (by rw [e]; exact fun _ _ z => z)
theorem KRV.jf {κ : Type} {J J' : Jp} {r : List (κ × R)} {v : List (κ × V)} (h : KRV K J r v) (e : J'.j = J.j) : KRV K J' r v := h.mj (by rw [e]; exact fun _ _ z => z)
end
section
variable {X : Cx} {W : WW} {pos : Pos}
theorem sim_lc {K : PySem.W.Frag} {wi : WI} {ti : TI} {t : TG} {wg : WG} {wt : WT} {we : WE} {vs : List Nat} (si : SimI K W ti wi) (sg : SimC K vs t wg) {J : Jp} {H : Hp} {σ : L2.St} {g : G} {M : MH} {xw : DX} {Q : VK} {Fin : List R → MH → Prop}
    (d : DSt K J H M) (rg : RG K J g σ) (h : wi g M (fun rs M1 => rs.length < sizeLine ∧ ∃ Inv : Nat → List R → MH → Prop, Inv 0 [] M1 ∧
  (∀ i r acc M', rs[i]? = some r → acc.length ≤ i → Inv i acc M' → wg r (wipeG g vs) M' (fun g2 M2 => wt g2 M2 (fun b M3 => (b = true → we g2 M3 (fun e M4 => Inv (i + 1) (acc ++ [e]) M4) noX) ∧ (b = false → Inv (i + 1) acc M3)) noX)) ∧
  (∀ acc M', acc.length ≤ rs.length → Inv rs.length acc M' → Fin acc M')) xw) (cx : ContX K J xw (fun c d H => W c d σ H))
    (fin : ∀ acc us J' H' M' D, Fin acc M' → Ex J J' → DSt K J' H' M' → J'.j D = none → J'.f D = none → M' D = none → H' D = some (.lst us) → RVs K J' acc us → Q (.ref D) H') :
    tLc ti t (encT K W0 wt) (encE K W0 we) vs σ H Q := by
  refine si J H σ g M _ xw _ d rg h (fun rs it J1 H1 M1 p1 e1 d1 wk => ?_) cx
  obtain ⟨hsz, Inv, i0, turn, done⟩ := p1
  intro D hD
  have rg1 := rg.mono e1
  refine ⟨fun i m H' => m = rs.length - i ∧ i ≤ rs.length ∧ ∃ J' M' acc us, Ex J1 J' ∧ DSt K J' H' M' ∧ J'.j D = none ∧ J'.f D = none ∧ M' D = none ∧ H' D = some (.lst us) ∧ RVs K J' acc us ∧ acc.length ≤ i ∧ Inv i acc M',
    ⟨_, rfl, Nat.zero_le _, J1, M1, [], [], Ex.rfl', ?_, d1.jnone hD, d1.fnone hD, d1.mnone hD, upd_same, .nil, Nat.le_refl _, i0⟩, ?_⟩
  · refine ⟨fun a q e => ?_, fun a q e => ?_, d1.fj, d1.no, fun a m e => (d1.mo a m e).mono Ex.rfl' (upd_ne (d1.mne hD a m e))⟩
    · rw [upd_ne (ne_of_none e (d1.jnone hD))]; exact d1.ex _ _ e
    · rw [upd_ne (ne_of_none e (d1.fnone hD))]; exact d1.fr _ _ e
  rintro i m H' ⟨rfl, hi, J', M', acc, us, e2, d2, jD, fD, mD, hH, ra, la, inv⟩
  by_cases lt : i < rs.length
  · have dk := d2.keep hH jD mD
    obtain ⟨go, yl⟩ := wk.go i rs[i] (J'.keep D (.lst us)) H' M' (by simp [lt]) e2.1 dk
    refine .inr ⟨go, fun H2 => ∃ J2 M2 acc2 us2, Ex J1 J2 ∧ DSt K J2 H2 M2 ∧ J2.j D = none ∧ J2.f D = none ∧ M2 D = none ∧ H2 D = some (.lst us2) ∧ RVs K J2 acc2 us2 ∧ acc2.length ≤ i + 1 ∧ Inv (i + 1) acc2 M2, fun H2 q => ⟨_, ?_, rfl, lt, q⟩, fun x H2 y => ?_⟩
    · show rs.length - (i + 1) < rs.length - i
      omega
    obtain ⟨J3, e3, d3, r3⟩ := yl x H2 y
    have rgk : RG K J3 (wipeG g vs) (L2.wipe σ vs) := RG.wipe ⟨rg.1, fun j r z => let ⟨v, q1, q2⟩ := rg1.2 j r z; ⟨v, q1, q2.mj fun a o z => e3.1 a o (e2.1 a o z)⟩⟩ vs
    have nD : ∀ {Jx : Jp} {Hx : Hp} {Mx : MH}, Ex (J'.keep D (.lst us)) Jx → DSt K Jx Hx Mx → Hx D = some (.lst us) ∧ Mx D = none := fun {Jx Hx Mx} e dx => by
      have f1 : Jx.f D = some (.lst us) := by rw [e.2]; exact upd_same
      refine ⟨dx.fr _ _ f1, ?_⟩
      cases q : Mx D with
      | none => rfl
      | some m => have := (dx.no D m q).2; rw [f1] at this; cases this
    refine sg.run J3 H2 σ g M' rs[i] x _ _ d3 rgk r3 (turn i rs[i] acc M' (by simp [lt]) la inv) fun g4 σ4 J4 H4 M4 p4 e4 d4 rg4 w4 => ⟨w4, ?_⟩
    refine ⟨J4, g4, M4, _, noX, d4, rg4, p4, fun b J5 H5 M5 p5 e5 d5 => ?_, noX_cont⟩
    have e35 := (e3.trans e4).trans e5
    cases b with
    | true =>
      refine (if_pos rfl).mpr ?_
      refine ⟨J5, g4, M5, _, noX, d5, rg4.mono e5, p5.1 rfl, fun r v J6 H6 M6 p6 e6 d6 r6 => ?_, noX_cont⟩
      have e36 := e35.trans e6
      obtain ⟨h6, m6⟩ := nD e36 d6
      refine ⟨us, h6, by rw [← ra.len]; omega, ?_⟩
      obtain ⟨e7, d7⟩ := d6.drop (o' := .lst (us ++ [v])) e36 m6 fD
      refine ⟨⟨J6.j, J'.f⟩, M6, acc ++ [r], us ++ [v], e2.trans e7, d7, ?_, fD, m6, upd_same, ?_, by rw [List.length_append, List.length_singleton]; omega, p6⟩
      · exact d6.fj D (.lst us) (by rw [e36.2]; exact upd_same)
      · exact (ra.mj e7.1).app (.cons (RV.mj (J := J6) (J' := ⟨J6.j, J'.f⟩) (fun _ _ z => z) r6) .nil)
    | false =>
      refine (if_neg Bool.false_ne_true).mpr ?_
      obtain ⟨h6, m6⟩ := nD e35 d5
      obtain ⟨e7, d7⟩ := d5.drop (o' := .lst us) e35 m6 fD
      have hu : upd H5 D (.lst us) = H5 := by
        funext b
        by_cases z : b = D
        · rw [z, upd_same, h6]
        · rw [upd_ne z]
      rw [hu] at d7
      exact ⟨⟨J5.j, J'.f⟩, M5, acc, us, e2.trans e7, d7, d5.fj D (.lst us) (by rw [e35.2]; exact upd_same), fD, m6, h6, ra.mj e7.1, by omega, p5.2 rfl⟩
  · have z : i = rs.length := by omega
    subst z
    exact .inl ⟨wk.stop J' H' M' e2.1 d2, fin acc us J' H' M' D (done acc M' la inv) (e1.trans e2) d2 jD fD mD hH ra⟩
/-- the tests of a comprehension -/
structure DTs (X : Cx) (ifs : List Expr) (w : WT) : Prop where
  pt : PTs X ifs (encT X.K W0 w)
theorem dts_one {e : Expr} {w : WT} (h : DT X W0 e w) : DTs X [e] w := ⟨pts_one h.pt⟩
abbrev BX (X : Cx) (scope : Scope) (s : Shared) (H : Hp) (C : Addr) (cl : List (Str × Addr)) (fp : List Addr) : Cx := X.blk s H scope (compEnvC scope cl C X.env) fp
theorem pe_lcD {elt tg iter : Expr} {ifs : List Expr} {scope : Scope} {own : List (Str × Nat)} {wi : TI} {t : TG} {wt : WT} {we : WE} (hc : X.calm = true) (hN : X.N.Nodup) (hi : PI X tg iter wi) (ok : BlkOk X.N X.env.scope scope own)
    (hg : ∀ (s : Shared) (H : Hp) (C : Addr) (cl : List (Str × Addr)) (fp : List Addr), PG (BX X scope s H C cl fp) tg t) (ht : ∀ (s : Shared) (H : Hp) (C : Addr) (cl : List (Str × Addr)) (fp : List Addr), DTs (BX X scope s H C cl fp) ifs wt)
    (he : ∀ (s : Shared) (H : Hp) (C : Addr) (cl : List (Str × Addr)) (fp : List Addr), DE (BX X scope s H C cl fp) W0 elt we) (hs : ∀ x, foldedSetIterable iter X.env x = pure x) :
    PE X (.ListComp elt [⟨tg, iter, ifs, 0⟩] scope pos) (tLc wi t (encT X.K W0 wt) (encE X.K W0 we) (own.map (·.2))) :=
  pe_lc hc hN hi ok hg (fun s H C cl fp => (ht s H C cl fp).pt) (fun s H C cl fp => (he s H C cl fp).pe) hs
theorem simLc {K : PySem.W.Frag} {ti : TI} {wi : WI} {t : TG} {wg : WG} {wt : WT} {we : WE} {vs : List Nat} (si : SimI K W ti wi) (sg : SimC K vs t wg) : Sim K W (tLc ti t (encT K W0 wt) (encE K W0 we) vs) (wLc wi wg wt we vs) := by
  refine fun J H σ g M P xw Q d rg h c cx => sim_lc (Fin := fun acc M' => P (.lst acc) M') si sg d rg h cx fun acc us J' H' M' D q e d' jD fD mD hH ra => ?_
  have d2 : DSt K (J'.put D (.lst us)) H' M' := by
    refine ⟨fun a o z => ?_, d'.fr, fun a o z => ?_, fun a m z => ?_, fun a m z => (d'.mo a m z).mono (Ex.new jD) rfl⟩
    · have z' : upd J'.j D (.lst us) a = some o := z
      by_cases w : a = D
      · rw [w, upd_same] at z'; rw [w, hH, z']
      · rw [upd_ne w] at z'; exact d'.ex _ _ z'
    · show upd J'.j D (.lst us) a = none
      rw [upd_ne (ne_of_none z fD)]; exact d'.fj _ _ z
    · have n : a ≠ D := fun w => by rw [w, mD] at z; cases z
      show upd J'.j D (.lst us) a = none ∧ _
      rw [upd_ne n]; exact d'.no a m z
  exact c (.lst acc) (.ref D) _ H' M' q (e.trans (Ex.new jD)) d2 (.lst upd_same (ra.mono (Ex.new jD)))
theorem de_lc {elt tg iter : Expr} {ifs : List Expr} {scope : Scope} {own : List (Str × Nat)} {wi : WI} {t : TG} {wg : WG} {wt : WT} {we : WE} (hc : X.calm = true) (hN : X.N.Nodup) (hi : DI X W tg iter wi) (ok : BlkOk X.N X.env.scope scope own)
    (sg : SimC X.K (own.map (·.2)) t wg) (hg : ∀ (s : Shared) (H : Hp) (C : Addr) (cl : List (Str × Addr)) (fp : List Addr), PG (BX X scope s H C cl fp) tg t) (ht : ∀ (s : Shared) (H : Hp) (C : Addr) (cl : List (Str × Addr)) (fp : List Addr), DTs (BX X scope s H C cl fp) ifs wt)
    (he : ∀ (s : Shared) (H : Hp) (C : Addr) (cl : List (Str × Addr)) (fp : List Addr), DE (BX X scope s H C cl fp) W0 elt we) (hs : ∀ x, foldedSetIterable iter X.env x = pure x := by intro _; rfl) :
    DE X W (.ListComp elt [⟨tg, iter, ifs, 0⟩] scope pos) (wLc wi wg wt we (own.map (·.2))) := by
  obtain ⟨ti, pi, si⟩ := hi
  exact ⟨_, pe_lcD hc hN pi ok hg ht he hs, simLc si sg⟩
end
end DL
set_option Elab.async false
set_option linter.all false
set_option maxRecDepth 100000
set_option maxHeartbeats 2000000
namespace DL
open PySem PySem.Spec L2
open PyProof.Rows hiding St
abbrev DC := List R → MH → DP → Prop
def SimCall (K : PySem.W.Frag) (r : List V → Hp → VK → Prop) (f : DC) : Prop := ∀ (J : Jp) (H : Hp) (M : MH) (rs : List R) (vs : List V) (P : DP) (Q : VK), DSt K J H M → RVs K J rs vs → f rs M P → Cont K J P Q → r vs H Q
section
variable {X : Cx} {W : WW} {pos : Pos}
def wB (f : DC) (wa : WA) : WE := fun g M P xw => wa g M (fun rs M1 => f rs M1 P) xw
theorem sim_B {K : PySem.W.Frag} {n : Nat} {r : List V → Hp → VK → Prop} {f : DC} {ta : TA} {wa : WA} (sc : SimCall K r f) (sa : SimA K W n ta wa) : Sim K W (tCB r ta) (wB f wa) := fun J H σ g M P xw Q d rg h c cx =>
  sa J H σ g M _ xw _ d rg h (fun rs vs J1 H1 M1 p1 l1 e1 d1 r1 => sc J1 H1 M1 rs vs P Q d1 r1 p1 (c.mono e1)) cx
theorem de_callB {id : String} {x : Str} {p : Pos} {e : Expr} {es : List Expr} {r : List V → Hp → VK → Prop} {f : DC} {wa : WA} (hc : CallR X (.builtin id) r) (sc : SimCall X.K r f) (hm : X.mg x = none) (ha : DA X W (e :: es) wa) (hv : bootBuiltins x = some (.builtin id) := by decide +kernel) (hg : Gl X x := by rfl)
    (hn : x ≠ "__name__" := by decide) (hdb : (x == ("__debug__" : Str)) = false := by decide) (he : starEach (e :: es) X.env = (false, eval e X.env) :: starEach es X.env := by rfl) (hpl : (backTo pos (starEach es X.env)).any (·.1) = false := by rfl) :
    DE X W (.Call (.Name x p) (e :: es) [] pos) (wB f wa) := by
  obtain ⟨ta, pa, sa⟩ := ha
  exact ⟨_, pe_callB hc hg hm hv pa hn hdb he hpl, sim_B sc sa⟩
/-- a built-in class as a value -/
theorem de_ty (t : Ty) {x : Str} (hm : X.mg x = none) (hv : bootBuiltins x = some (.type t.nm) := by decide +kernel) (hg : Gl X x := by rfl) (hn : x ≠ "__name__" := by decide) (hd : (x == ("__debug__" : Str)) = false := by decide) : DE X W (.Name x pos) (wC (.ty t)) :=
  ⟨_, pe_bltn (v := .ty t.nm) hg hm hv rfl hn hd, fun J H _ _ M _ _ _ d _ h c _ => c (.ty t) _ J H M h Ex.rfl' d (.ty t)⟩
end
section
variable {K : PySem.W.Frag}
theorem one_of {J : Jp} {r : R} {vs : List V} (h : RVs K J [r] vs) : ∃ v, vs = [v] ∧ RV K J r v := by
  cases h with
  | cons a t => cases t; exact ⟨_, rfl, a⟩
theorem pair_of {J : Jp} {r q : R} {vs : List V} (h : RVs K J [r, q] vs) : ∃ v u, vs = [v, u] ∧ RV K J r v ∧ RV K J q u := by
  cases h with
  | cons a t =>
    cases t with
    | cons b t => cases t; exact ⟨_, _, rfl, a, b⟩
def rLenU (K : PySem.W.Frag) : List V → Hp → VK → Prop := fun xs H Q => (∃ z, xs = [.str z] ∧ z.length ≤ sizeLine ∧ Q (.int z.length) H) ∨
  ((∃ p ys, xs = [.ref p] ∧ (SqL K H p ys ∨ SqT K H p ys) ∧ Q (.int ys.length) H) ∨ (∃ a kvs, xs = [V.ref a] ∧ H a = some (.dK kvs) ∧ Q (.int kvs.length) H))
theorem call_lenU {X : Cx} : CallR X (.builtin "len") (rLenU X.K) := CallR.or call_len_str (CallR.or call_len_seq call_lenD)
def fLen : DC := fun xs M P => match xs with
  | [.str z] => z.length ≤ sizeLine ∧ P (.int z.length) M
  | [.tup rs] => P (.int rs.length) M
  | [.lst rs] => P (.int rs.length) M
  | [.scr ns] => P (.int ns.length) M
  | [.pt rs] => P (.int rs.length) M
  | [.o a] => (∃ rs, M a = some (.lst rs) ∧ P (.int rs.length) M) ∨ (∃ kvs, M a = some (.dK kvs) ∧ P (.int kvs.length) M)
  | _ => False
theorem sc_len : SimCall K (rLenU K) fLen := by
  intro J H M rs vs P Q d rv h c
  unfold fLen at h
  split at h
  · obtain ⟨v, rfl, r⟩ := one_of rv
    cases r
    exact .inl ⟨_, rfl, h.1, c _ _ J H M h.2 Ex.rfl' d (.int _)⟩
  · obtain ⟨v, rfl, r⟩ := one_of rv
    cases r with
    | tup h1 h2 => exact .inr (.inl ⟨_, _, rfl, .inr (d.ex.sqT h1), by rw [← h2.len]; exact c _ _ J H M h Ex.rfl' d (.int _)⟩)
  · obtain ⟨v, rfl, r⟩ := one_of rv
    cases r with
    | lst h1 h2 => exact .inr (.inl ⟨_, _, rfl, .inl (.inl (.inl (d.ex _ _ h1))), by rw [← h2.len]; exact c _ _ J H M h Ex.rfl' d (.int _)⟩)
  · obtain ⟨v, rfl, r⟩ := one_of rv
    cases r with
    | scr h1 => exact .inr (.inl ⟨_, _, rfl, .inl (d.ex.ls h1).sq, by rw [List.length_map]; exact c _ _ J H M h Ex.rfl' d (.int _)⟩)
  · obtain ⟨v, rfl, r⟩ := one_of rv
    cases r with
    | pt h1 _ h2 => exact .inr (.inl ⟨_, _, rfl, .inr (d.ex.sqT (RV.ptT h1)), by rw [← h2.len]; exact c _ _ J H M h Ex.rfl' d (.int _)⟩)
  · obtain ⟨v, rfl, r⟩ := one_of rv
    cases r
    rcases h with ⟨rs, h1, h2⟩ | ⟨kvs, h1, h2⟩
    · obtain ⟨us, h3, h4⟩ := d.mo _ _ h1
      exact .inr (.inl ⟨_, _, rfl, .inl (.inl (.inl h3)), by rw [← h4.len]; exact c _ _ J H M h2 Ex.rfl' d (.int _)⟩)
    · obtain ⟨us, h3, h4⟩ := d.mo _ _ h1
      exact .inr (.inr ⟨_, _, rfl, h3, by rw [← h4.len]; exact c _ _ J H M h2 Ex.rfl' d (.int _)⟩)
  · exact h.elim
def R.kind : R → Option Ty
  | .non => some .non | .bl _ => some .bl | .int _ => some .int | .str _ => some .str | .tup _ => some .tup | .lst _ => some .lst | .scr _ => some .lst | .pt _ => some .tup | _ => none
def rRepr (K : PySem.W.Frag) : List V → Hp → VK → Prop := fun xs H Q => ∃ a d, xs = [.ref a] ∧ Dp K H (.ref a) d ∧ d.showable = true ∧ d.hasDict = false ∧ d.depth ≤ 50 ∧ d.shown.length ≤ sizeLine ∧ Q (.str d.shown) H
theorem call_reprU {X : Cx} {k : Nat} (hr : RoomG k X.A) : CallR X (.builtin "repr") (rRepr X.K) := by
  intro pins s σ H xs us Q I rv h
  obtain ⟨a, d, rfl, hd, h1, h2, h3, h4, q⟩ := h
  obtain ⟨u, rfl, r⟩ := vals1 rv
  cases r
  obtain ⟨as, rd⟩ := Dp.reads I d _ _ hd rfl
  have hu := hr.hu
  refine repr_of_reads' rd h1 (fun z => by rw [h2] at z; cases z) hr.g (by omega) (fun _ _ z => z) (fun h' u tk hk => ?_) h4
  exact ⟨.str _, H, I.kept (h' := h') (t' := tk) hk, ⟨_, rfl⟩, q⟩
def fRepr : DC := fun xs M P => match xs with
  | [x] => ∃ d, PyOf M x d ∧ d.showable = true ∧ d.hasDict = false ∧ d.depth ≤ 50 ∧ d.shown.length ≤ sizeLine ∧ (∃ rs, x = .tup rs ∨ x = .lst rs ∨ ∃ a, x = .o a) ∧ P (.str d.shown) M
  | _ => False
theorem sc_repr : SimCall K (rRepr K) fRepr := by
  intro J H M rs vs P Q d rv h c
  unfold fRepr at h
  split at h
  · obtain ⟨v, rfl, r⟩ := one_of rv
    obtain ⟨dd, h1, h2, h3, h4, h5, h6, h7⟩ := h
    have e : ∃ a, v = .ref a := by
      obtain ⟨rs, h6 | h6 | ⟨a, h6⟩⟩ := h6 <;> subst h6 <;> cases r <;> exact ⟨_, rfl⟩
    obtain ⟨a, rfl⟩ := e
    exact ⟨a, dd, rfl, h1.dp d r, h2, h3, h4, h5, c _ _ J H M h7 Ex.rfl' d (.str _)⟩
  · exact h.elim
def SqOf (M : MH) (x : R) (rs : List R) : Prop := match x with
  | .tup rs' => rs' = rs
  | x => LsOf M x rs
theorem SqOf.get {J : Jp} {H : Hp} {M : MH} {x : R} {v : V} {rs : List R} (d : DSt K J H M) (r : RV K J x v) (h : SqOf M x rs) : ∃ a vs, v = .ref a ∧ (SqL K H a vs ∨ SqT K H a vs) ∧ RVs K J rs vs := by
  unfold SqOf at h
  split at h
  · subst h
    cases r with
    | tup h1 h2 => exact ⟨_, _, rfl, .inr (d.ex.sqT h1), h2⟩
  · obtain ⟨a, vs, h1, h2, h3⟩ := LsOf.get d r h
    exact ⟨a, vs, h1, .inl h2.sq, h3⟩
def rMn : List V → Hp → VK → Prop := fun xs H Q => ∃ i j : Int, xs = [.int i, .int j] ∧ Q (.int (if j < i then j else i)) H
theorem call_mn {X : Cx} (hc : X.calm = true) : CallR X (.builtin "min") rMn := call_min2 hc
def fMn : DC := fun xs M P => match xs with
  | [.int i, .int j] => P (.int (min i j)) M
  | _ => False
theorem sc_mn : SimCall K rMn fMn := by
  intro J H M rs vs P Q d rv h c
  unfold fMn at h
  split at h
  · obtain ⟨v, u, rfl, r1, r2⟩ := pair_of rv
    cases r1; cases r2
    rename_i i j
    refine ⟨i, j, rfl, ?_⟩
    have e : (if j < i then j else i) = min i j := by split <;> omega
    rw [e]
    exact c _ _ J H M h Ex.rfl' d (.int _)
  · exact h.elim
end
end DL
set_option Elab.async false
set_option linter.all false
set_option maxRecDepth 100000
set_option maxHeartbeats 2000000
namespace DL
open PySem PySem.Spec L2
open PyProof.Rows hiding St
section
variable {X : Cx} {W : WW} {pos : Pos}
def keyOf : R → Option Key
  | .int i => some (.inl i)
  | .str x => some (.inr x)
  | _ => none
theorem keyOf_rv {K : PySem.W.Frag} {J : Jp} {r : R} {v : V} {k : Key} (h : RV K J r v) (e : keyOf r = some k) : v = kV k := by
  cases h <;> cases e <;> rfl
def dGet : D2 := fun x y M P => match x, keyOf y with
  | .o a, some k => ∃ kvs r, M a = some (.dK kvs) ∧ valR kvs k = some r ∧ P r M
  | _, _ => False
theorem de_dget {o i : Expr} {wo wi : WE} (hu : X.A.units + 64 < cLine) (ho : DE X W o wo) (hi : DE X W i wi) (hs : NoSl i := by exact fun _ _ => rfl) : DE X W (.Subscript o i pos) (wOp dGet wo wi) := by
  obtain ⟨to, po, so⟩ := ho
  obtain ⟨ti, pi, si⟩ := hi
  refine ⟨_, pe_dget (by omega) po pi hs, fun J H σ g M P xw Q d rg h c cx => so J H σ g M _ xw _ d rg h (fun x v J1 H1 M1 p1 e1 d1 r1 => ?_) cx⟩
  refine si J1 H1 σ g M1 _ xw _ d1 (rg.mono e1) p1 (fun y u J2 H2 M2 p2 e2 d2 r2 => ?_) (cx.mono e1)
  unfold dGet at p2
  split at p2
  · rename_i k ek
    cases r1
    obtain ⟨kvs, r, h1, h2, h3⟩ := p2
    obtain ⟨ws, h4, h5⟩ := d2.mo _ _ h1
    obtain ⟨w, h6, h7⟩ := h5.val_some h2
    rw [keyOf_rv r2 ek]
    exact ⟨_, w, rfl, h6 ▸ DGet.k h4, c _ _ J2 H2 M2 h3 (e1.trans e2) d2 h7⟩
  · exact p2.elim
/-- d[k] = e -/
def sDPutD (wo wi we : WE) : WS := fun D g M => we g M (fun r M1 => wo g M1 (fun x M2 => wi g M2 (fun y M3 => match x, keyOf y with
  | .o a, some k => ∃ kvs, M3 a = some (.dK kvs) ∧ kvs.length < sizeLine ∧ D.nx g (updM M3 a (.dK (putR kvs k r)))
  | _, _ => False) (fun c f M' => D.xc c f g M')) (fun c f M' => D.xc c f g M')) (fun c f M' => D.xc c f g M')
theorem ds_dput {o i e : Expr} {p' : Pos} {wo wi we : WE} (hu : X.A.units + 64 < cLine) (ho : DE X W o wo) (hi : DE X W i wi) (he : DE X W e we) (hs : swapsWith e (some (.Subscript o i p')) pos.line X.env = pure false := by rfl) : DS X W (.Assign [.Subscript o i p'] e pos) (sDPutD wo wi we) := by
  obtain ⟨to, po, so⟩ := ho
  obtain ⟨ti, pi, si⟩ := hi
  obtain ⟨te, pe, se⟩ := he
  refine ⟨_, ps_dput (by omega) po pi pe hs, fun J H σ g M D E d rg h c => se J H σ g M _ _ _ d rg h (fun r v J1 H1 M1 p1 e1 d1 r1 => ?_) (c.x rg)⟩
  refine so J1 H1 σ g M1 _ _ _ d1 (rg.mono e1) p1 (fun x u J2 H2 M2 p2 e2 d2 r2 => ?_) ((c.mono e1).x (rg.mono e1))
  refine si J2 H2 σ g M2 _ _ _ d2 ((rg.mono e1).mono e2) p2 (fun y w J3 H3 M3 p3 e3 d3 r3 => ?_) (((c.mono e1).mono e2).x ((rg.mono e1).mono e2))
  split at p3
  · rename_i k ek
    cases r2
    obtain ⟨kvs, h1, h2, h3⟩ := p3
    obtain ⟨ws, h4, h5⟩ := d3.mo _ _ h1
    rw [keyOf_rv r3 ek]
    have e13 := (e1.trans e2).trans e3
    refine ⟨_, _, rfl, DPut.k h4 (by rw [← h5.len]; exact h2), c.nx g σ J3 _ _ h3 e13 (d3.put h1 ⟨_, upd_same, h5.put ((r1.mono e2).mono e3)⟩) (rg.mono e13)⟩
  · exact p3.elim
/-- {k: v, ..} -/
abbrev WP := G → MH → (List (Key × R) → MH → Prop) → DX → Prop
structure DPs (X : Cx) (W : WW) (pos : Pos) (keys : List (Option Expr)) (values : List Expr) (w : WP) : Prop where
  ex : ∃ trs, PPs X pos keys values trs ∧ ∀ (J : Jp) (H : Hp) (σ : L2.St) (g : G) (M : MH) (P : List (Key × R) → MH → Prop) (xw : DX) (Q : List (V × V) → Hp → Prop), DSt X.K J H M → RG X.K J g σ → w g M P xw →
    (∀ kvs ws J' H' M', P kvs M' → kvs.length = keys.length → Ex J J' → DSt X.K J' H' M' → KRV X.K J' kvs ws → Q (ws.map fun kv => (kV kv.1, kv.2)) H') → ContX X.K J xw (fun c d H => W c d σ H) → tPairs trs σ H Q
def wpNil : WP := fun _ M P _ => P [] M
def wpCons (wk wv : WE) (wr : WP) : WP := fun g M P xw => wk g M (fun x M1 => wv g M1 (fun r M2 => wr g M2 (fun kvs M3 => match keyOf x with
  | some k => P ((k, r) :: kvs) M3
  | none => False) xw) xw) xw
theorem dps_nil : DPs X W pos [] [] wpNil := ⟨_, pps_nil, fun J H _ _ M P xw Q d _ h c _ => c [] [] J H M h rfl Ex.rfl' d .nil⟩
theorem dps_cons {k v : Expr} {ks : List (Option Expr)} {vs : List Expr} {wk wv : WE} {wr : WP} (hk : DE X W k wk) (hv : DE X W v wv) (hr : DPs X W pos ks vs wr) : DPs X W pos (some k :: ks) (v :: vs) (wpCons wk wv wr) := by
  obtain ⟨tk, pk, sk⟩ := hk
  obtain ⟨tv, pv, sv⟩ := hv
  obtain ⟨tr, pr, sr⟩ := hr
  refine ⟨_, pps_cons pk pv pr, fun J H σ g M P xw Q d rg h c cx => sk J H σ g M _ xw _ d rg h (fun x xv J1 H1 M1 p1 e1 d1 r1 => ?_) cx⟩
  refine sv J1 H1 σ g M1 _ xw _ d1 (rg.mono e1) p1 (fun r rv J2 H2 M2 p2 e2 d2 r2 => ?_) (cx.mono e1)
  refine sr J2 H2 σ g M2 _ xw _ d2 ((rg.mono e1).mono e2) p2 (fun kvs ws J3 H3 M3 p3 l3 e3 d3 r3 => ?_) ((cx.mono e1).mono e2)
  split at p3
  · rename_i q eq
    rw [keyOf_rv r1 eq]
    exact c ((q, r) :: kvs) ((q, rv) :: ws) J3 H3 M3 p3 (by rw [List.length_cons, List.length_cons, l3]) ((e1.trans e2).trans e3) d3 (.cons ⟨rfl, r2.mono e3⟩ r3)
  · exact p3.elim
def mergeR (kvs more : List (Key × R)) : List (Key × R) := more.foldl (fun acc kv => putR acc kv.1 kv.2) kvs
theorem merge_rv {K : PySem.W.Frag} {J : Jp} : ∀ {more : List (Key × R)} {ws : List (Key × V)}, KRV K J more ws → ∀ {kvs : List (Key × R)} {us : List (Key × V)}, KRV K J kvs us → KRV K J (mergeR kvs more) (mergeK us ws)
  | _, _, .nil, _, _, h => h
  | p :: more, q :: ws, .cons e t, kvs, us, h => by
    unfold mergeR mergeK
    rw [List.foldl_cons, List.foldl_cons]
    have e2 : p.1 = q.1 := e.1
    rw [← e2]
    exact merge_rv t (h.put e.2)
def wDisp (w : WP) : WE := fun g M P xw => w g M (fun kvs M1 => ∀ a, M1 a = none → P (.o a) (updM M1 a (.dK (mergeR [] kvs)))) xw
theorem de_disp {keys : List (Option Expr)} {values : List Expr} {w : WP} (h : DPs X W pos keys values w) (hall : keys.all (·.isSome) = true := by rfl) (hl : keys.length = values.length := by rfl) (h0 : keys ≠ [] := by exact fun z => by cases z) (h15 : Nat.ble keys.length 15 = true := by rfl) : DE X W (.Dict keys values pos) (wDisp w) := by
  obtain ⟨trs, pp, s⟩ := h
  have h15' : keys.length ≤ 15 := Nat.le_of_ble_eq_true h15
  refine ⟨_, pe_disp pp hall hl h0 h15', fun J H σ g M P xw Q d rg h c cx => fun p hp => ?_⟩
  have jp := d.jnone hp
  have fp := d.fnone hp
  have mp := d.mnone hp
  have d0 : DSt X.K J (upd H p (.dK [])) M := ⟨fun a o z => by rw [upd_ne (ne_of_none z jp)]; exact d.ex _ _ z, fun a o z => by rw [upd_ne (ne_of_none z fp)]; exact d.fr _ _ z, d.fj, d.no, fun a m z => (d.mo a m z).mono Ex.rfl' (upd_ne (d.mne hp a m z))⟩
  have d1 := d0.keep (o := .dK []) upd_same jp mp
  refine s (J.keep p (.dK [])) _ σ g M _ xw _ d1 ⟨rg.1, fun i r z => let ⟨v, q1, q2⟩ := rg.2 i r z; ⟨v, q1, q2.jf rfl⟩⟩ h (fun kvs ws J2 H2 M2 p2 l2 e2 d2 r2 => ?_) (fun cls fs dd J' H' M' q e d' x => ?_)
  · have f2 : J2.f p = some (.dK []) := by rw [e2.2]; exact upd_same
    have m2 : M2 p = none := by
      cases q : M2 p with
      | none => rfl
      | some m => have := (d2.no p m q).2; rw [f2] at this; cases this
    obtain ⟨e3, d3⟩ := d2.drop (o' := .dK (mergeK [] ws)) e2 m2 fp
    refine ⟨d2.fr _ _ f2, ws, rfl, ?_, ?_⟩
    · have := r2.len; omega
    · refine c (.o p) (.ref p) ⟨J2.j, J.f⟩ _ _ (p2 p m2) e3 ?_ (.o p)
      have hk : KOk X.K ⟨J2.j, J.f⟩ (upd H2 p (.dK (mergeK [] ws))) p (mergeR [] kvs) := ⟨_, upd_same, (merge_rv r2 .nil).jf rfl⟩
      refine ⟨d3.ex, d3.fr, d3.fj, fun a m z => ?_, fun a m z => ?_⟩
      · by_cases w : a = p
        · rw [w]; exact ⟨d2.fj p _ f2, fp⟩
        · rw [updM_ne w] at z; exact d3.no a m z
      · by_cases w : a = p
        · rw [w, updM_same] at z; cases z; rw [w]; exact hk
        · rw [updM_ne w] at z; exact d3.mo a m z
  · have e' : Ex J ⟨J'.j, J.f⟩ := ⟨e.1, rfl⟩
    have f2 : J'.f p = some (.dK []) := by rw [e.2]; exact upd_same
    have m2 : M' p = none := by
      cases z : M' p with
      | none => rfl
      | some m => have := (d'.no p m z).2; rw [f2] at this; cases this
    obtain ⟨e3, d3⟩ := d'.drop (o' := .dK []) e m2 fp
    have hu : upd H' p (.dK []) = H' := by
      funext b
      by_cases z : b = p
      · rw [z, upd_same, d'.fr _ _ f2]
      · rw [upd_ne z]
    rw [hu] at d3
    refine cx cls fs dd ⟨J'.j, J.f⟩ H' M' q e' d3 ?_
    cases dd with
    | none => cases fs with
      | none => trivial
      | some _ => exact x.elim
    | some da => cases fs with
      | none => exact x.elim
      | some ff => obtain ⟨ws, x1, x2⟩ := x; exact ⟨ws, x1, x2.jf rfl⟩
def mApp : R → List R → MH → DP → Prop := fun x ys M P => match x, ys with
  | .o a, [r] => ∃ rs, M a = some (.lst rs) ∧ rs.length < sizeLine ∧ P .non (updM M a (.lst (rs ++ [r])))
  | _, _ => False
/-- the receiver's kind is seen ahead of the arguments -/
def wMethL (f : R → List R → MH → DP → Prop) (wo : WE) (wa : WA) : WE := fun g M P xw => wo g M (fun x M1 => (∃ rs, LsOf M1 x rs) ∧ wa g M1 (fun ys M2 => f x ys M2 P) xw) xw
theorem de_append {o e : Expr} {apos : Pos} {wo : WE} {wa : WA} (ho : DE X W o wo) (ha : DA X W [e] wa) (hbase : attributeBase o "append" X.env (eval o X.env) = eval o X.env := by rfl)
    (hfew : ((backTo pos (starEach [e] X.env)).all (fun x => !x.1) && (backToKw pos (keywordEach [] X.env)).all (fun x => x.1.isSome) && decide (([e] : List Expr).length + ([] : List Keyword).length + (if ([] : List Keyword).isEmpty then 0 else 1) < 30)) = true := by rfl)
    (hline : (apos.endLine == pos.line) = true := by rfl) (hs : starEach [e] X.env = (false, eval e X.env) :: starEach [] X.env := by rfl) (hplain : (backTo pos (starEach [] X.env)).any (·.1) = false := by rfl) :
    DE X W (.Call (.Attribute o "append" apos) [e] [] pos) (wMethL mApp wo wa) := by
  obtain ⟨to, po, so⟩ := ho
  obtain ⟨ta, pa, sa⟩ := ha
  refine ⟨_, pe_bm PySem.F.plainAttrs_list PySem.F.slot_list_append PySem.F.type_list_append mt_append po pa hbase hfew hline hs hplain, fun J H σ g M P xw Q d rg h c cx => so J H σ g M _ xw _ d rg h (fun x v J1 H1 M1 p1 e1 d1 r1 => ?_) cx⟩
  obtain ⟨⟨rs0, p0⟩, p1⟩ := p1
  obtain ⟨q, us, rfl, l, _⟩ := p0.get d1 r1
  refine ⟨.inl ⟨rfl, _, l.sq⟩, sa J1 H1 σ g M1 _ xw _ d1 (rg.mono e1) p1 (fun ys zs J2 H2 M2 p2 l2 e2 d2 r2 => ?_) (cx.mono e1)⟩
  unfold mApp at p2
  split at p2
  · obtain ⟨y, rfl, ry⟩ := one_of r2
    cases r1
    obtain ⟨rs, h1, h2, h3⟩ := p2
    obtain ⟨vs, h4, h5⟩ := d2.mo _ _ h1
    exact ⟨_, _, _, rfl, rfl, h4, by rw [← h5.len]; exact h2, c .non .non J2 _ _ h3 (e1.trans e2) (d2.put h1 ⟨_, upd_same, h5.app (.cons ry .nil)⟩) .non⟩
  · exact p2.elim
end
end DL
set_option Elab.async false
set_option linter.all false
set_option maxRecDepth 100000
set_option maxHeartbeats 2000000
namespace DL
open PySem PySem.Spec L2
open PyProof.Rows hiding St
abbrev M0 : MH := fun _ => none
def J0 : Jp := ⟨fun _ => none, fun _ => none⟩
section
variable {P : Program} {w : World} {K : PySem.W.Frag} {mg mb : Str → Option Value} {k : Nat} {fa a : Addr} {fd : FuncData} {x : Str} {dsp : DSp} {s₁ : Shared} {vs : List Value} {ns : List Int}
/-- from an abstract heap in which nothing but the script may be tracked -/
theorem law_core (KX : K.In s₁.heap) (hns : s₁.heap.Ns mainGlobals mg) (hb : s₁.heap.Ns builtinsNs mb) (hbb : ∀ x : Str, x ≠ "__name__" → mb x = bootBuiltins x) (hlim : s₁.heap.NoLimit) (hg : s₁.gens = #[])
    (ha : s₁.heap.get? a = some { cls := .type "list", data := .seq vs.toArray }) (hr : Room k callerA) (F : ∀ base : Heap, K.In base → base.Ns mainGlobals mg → DFn P w K mg base k fa fd [x] dsp)
    (hbind : ∀ (s : Shared) (u : Value), BindsTo s fd ⟨[u], []⟩ [(x, u)]) (hsp : dsp [.scr ns] M0 (fun r _ => r = .bl true) noX)
    (H : Hp) (hO : ∀ b u, H b = some u → b = a ∧ u = .frz { cls := .type "list", data := .seq vs.toArray } (.lst (ns.map V.int))) (hS : Ls K H a (ns.map V.int)) (hok : HOk P w H s₁.heap) (hK : H a ≠ none → K.lookup a = none) :
    codeAny (model P w) callerA (.call (.ref fa) ⟨[.ref a], []⟩) (fun r s' => r = .ok (.ret (.bool true)) ∧ OldK s₁.heap s'.heap ∧ s'.os = s₁.os ∧ AllBare s'.gens) s₁ := by
  have nd : ∀ {b : Addr} {o : Obj} {es : Array DictEntry} {ep : Nat}, s₁.heap.get? b = some o → o.data = .dict es ep → H b = none := by
    intro b o es ep e q
    cases z : H b with
    | none => rfl
    | some u =>
      obtain ⟨rfl, _⟩ := hO b u z
      rw [ha] at e
      cases e
      exact absurd q (by intro y; cases y)
  have nsk : ∀ {b : Addr} {m : Str → Option Value}, s₁.heap.Ns b m → (hidT s₁.heap H).Ns b m := by
    rintro b m ⟨o, es, ep, e, q, r⟩
    exact ⟨o, es, ep, hidT_get e (nd e q), q, r⟩
  have kin : K.In (hidT s₁.heap H) := by
    intro b o e
    refine hidT_get (KX b o e) ?_
    cases z : H b with
    | none => rfl
    | some u =>
      obtain ⟨rfl, _⟩ := hO b u z
      rw [hK (by rw [z]; intro y; cases y)] at e
      cases e
  have hM : Mod K mg (hidT s₁.heap H) := ⟨kin, nsk hns, ⟨mb, nsk hb, hbb⟩, let ⟨mc, h1, h2⟩ := hlim; ⟨mc, nsk h1, h2⟩⟩
  have e0 : Env0 P w K mg (hidT s₁.heap H) callerA [] s₁ H := ⟨rfl, hM, fun _ _ e => of_hidT e, Nat.le_of_eq (hidT_size _ _), trivial, fun b z => (by cases (show b ∈ ([] : List Addr) from z)), hok, AllBare.of_eq hg⟩
  have dst : DSt K ⟨H, fun _ => none⟩ H M0 := ⟨fun _ _ e => e, fun _ _ e => (by cases e), fun _ _ e => (by cases e), fun _ _ e => (by cases e), fun _ _ e => (by cases e)⟩
  refine codeAny_mono ((F _ kin (nsk hns)).run callerA [] s₁ H ⟨[.ref a], []⟩ [.ref a] [.ref a] (fun v _ => v = .bl true) (fun _ _ _ => False) hr rfl e0 (hbind s₁ (.ref a)) (.cons rfl .nil)
    ⟨rfl, ⟨H, fun _ => none⟩, M0, [.scr ns], _, noX, dst, .cons (.scr hS) .nil, hsp, ?_, noX_cont⟩) ?_
  · intro r v J' H' M' q _ _ rv
    rw [q] at rv
    cases rv; rfl
  · intro r s' h
    cases r with
    | error e =>
      obtain ⟨_, _, _, _, _, _, _, _, _, _, _, _, z⟩ := h
      exact z.elim
    | ok fl =>
      cases fl with
      | next => exact False.elim h
      | brk => exact False.elim h
      | cont => exact False.elim h
      | ret u =>
        obtain ⟨v, H', os, bare, un, hok', r', q⟩ := h
        have q' : v = .bl true := q
        subst q'
        obtain rfl : u = Value.bool true := r'
        refine ⟨rfl, OldK.of_keep fun b o e => ?_, os, bare⟩
        cases z : H b with
        | none => exact un.keep b o e z (fun y => by cases (show b ∈ ([] : List Addr) from y)) (by simp)
        | some u =>
          obtain ⟨rfl, rfl⟩ := hO b u z
          obtain ⟨e1, _⟩ := hok b _ z
          obtain ⟨e2, _⟩ := hok' b _ (un.frzs b _ _ z)
          rw [e] at e1; cases e1
          exact e2
theorem law_callG (KX : K.In s₁.heap) (hns : s₁.heap.Ns mainGlobals mg) (hb : s₁.heap.Ns builtinsNs mb) (hbb : ∀ x : Str, x ≠ "__name__" → mb x = bootBuiltins x) (hlim : s₁.heap.NoLimit) (hg : s₁.gens = #[])
    (ha : s₁.heap.get? a = some { cls := .type "list", data := .seq vs.toArray }) (hi : IntsAre vs ns) (hl : ns.length ≤ sizeLine) (hr : Room k callerA) (F : ∀ base : Heap, K.In base → base.Ns mainGlobals mg → DFn P w K mg base k fa fd [x] dsp)
    (hbind : ∀ (s : Shared) (u : Value), BindsTo s fd ⟨[u], []⟩ [(x, u)]) (hsp : dsp [.scr ns] M0 (fun r _ => r = .bl true) noX) :
    codeAny (model P w) callerA (.call (.ref fa) ⟨[.ref a], []⟩) (fun r s' => r = .ok (.ret (.bool true)) ∧ OldK s₁.heap s'.heap ∧ s'.os = s₁.os ∧ AllBare s'.gens) s₁ := by
  have rv := vals_ints hi
  have lv : vs.length ≤ sizeLine := by rw [hi.length]; exact hl
  have core := law_core (H := fun b => if b = a then (if K.lookup a = none then some (.frz { cls := .type "list", data := .seq vs.toArray } (.lst (ns.map V.int))) else none) else none) KX hns hb hbb hlim hg ha hr F hbind hsp
  refine core ?_ ?_ ?_ ?_
  · intro b u z
    try dsimp only at z
    split at z
    · rename_i e
      split at z
      · cases z; exact ⟨e, rfl⟩
      · cases z
    · cases z
  · by_cases e : K.lookup a = none
    · refine .inl (.inr ⟨{ cls := .type "list", data := .seq vs.toArray }, ?_⟩)
      try dsimp only
      rw [if_pos rfl, if_pos e]
    · refine .inr ⟨vs, ?_, lv, rv⟩
      cases q : K.lookup a with
      | none => exact absurd q e
      | some o => rw [← ha]; exact (KX a o q).symm
  · intro b u z
    try dsimp only at z
    split at z
    · rename_i e
      subst e
      split at z
      · cases z
        exact ⟨ha, by rw [List.length_map]; exact hl, vs, _, rv, ha⟩
      · cases z
    · cases z
  · intro z
    try dsimp only at z
    rw [if_pos rfl] at z
    split at z
    · assumption
    · exact absurd rfl z
end
/-- the end: F gives the written part, the function object, the promise over every base; the script's bits are told -/
theorem walk_G {l : PySem.W.OpenLaw} {n k : Nat} {q : Program} {loose : List Str} {XP : (Str → Option Value) → Heap → Prop} {YP : World → Heap → Prop} {d : DefRec} {x : Str} (hn : l.most = some n) (hn2 : n ≤ sizeLine) (hdf : d.params.defaults = []) (hr : Room k callerA)
    (F : ∀ (w : World) (mg : Str → Option Value) (fa : Addr) (h : Heap), YP w h → h.Ns mainGlobals mg → mg d.name = some (.ref fa) →
      ∃ (K : PySem.W.Frag) (fd : FuncData) (dsp : DSp), K.In h ∧ (∀ (s : Shared) (u : Value), BindsTo s fd ⟨[u], []⟩ [(x, u)]) ∧
        (∀ ns : List Int, ns.length ≤ n → (∀ z ∈ ns, Builtin.Int.intBits z ≤ 1048576) → dsp [.scr ns] M0 (fun r _ => r = .bl true) noX) ∧ ∀ base : Heap, K.In base → base.Ns mainGlobals mg → DFn l.prog w K mg base k fa fd [x] dsp) :
    PySem.W.WalkO q loose XP YP l.row.toRowW d [] (fun f vs => PySem.call f vs) := by
  refine Att.attach_callB hn hdf ?_
  intro w s₀ s₁ mg mb fa o pm cd doc a vs ns G Y ho hd hcd hmg hobj hints hlen hbits hg
  obtain ⟨K, fd, dsp, KX, hb, hsp, hF⟩ := F w mg fa _ Y G.T.g hmg
  exact law_callG KX G.T.g G.T.b G.T.builtins G.T.nolimit hg hobj hints (Nat.le_trans hlen hn2) hr hF hb (hsp ns hlen hbits)
end DL
set_option Elab.async false
set_option linter.all false
set_option maxRecDepth 100000
set_option maxHeartbeats 2000000
namespace DL
open PySem PySem.Spec L2
open PyProof.Rows hiding St
section
variable {P : Program} {w : World} {K : PySem.W.Frag} {mg : Str → Option Value} {base : Heap} {k : Nat} {f : Addr} {fd : FuncData} {ps : List Str}
theorem DSt.openD {J : Jp} {H : Hp} {M : MH} {a : Addr} {n : Nat} (d : DSt K J H M) (h : M a = some (.dr n)) : ∃ ns t l u, DrOk n ns t l u ∧ DSt K J H (updM M a (.dK (drKvs ns t l u))) := by
  obtain ⟨ns, t, l, u, h0, h1⟩ := d.mo a _ h
  refine ⟨ns, t, l, u, h0, d.ex, d.fr, d.fj, fun b m e => ?_, fun b m e => ?_⟩
  · by_cases z : b = a
    · rw [z]; exact d.no a _ h
    · rw [updM_ne z] at e; exact d.no b m e
  · by_cases z : b = a
    · rw [z, updM_same] at e; cases e; rw [z]; exact h1
    · rw [updM_ne z] at e; exact d.mo b m e
theorem DSt.closeD {J : Jp} {H : Hp} {M : MH} {a : Addr} {n : Nat} {ns : List Int} {t l u : Int} (d : DSt K J H M) (h0 : DrOk n ns t l u) (h : M a = some (.dK (drKvs ns t l u))) : DSt K J H (updM M a (.dr n)) := by
  refine ⟨d.ex, d.fr, d.fj, fun b m e => ?_, fun b m e => ?_⟩
  · by_cases z : b = a
    · rw [z]; exact d.no a _ h
    · rw [updM_ne z] at e; exact d.no b m e
  · by_cases z : b = a
    · rw [z, updM_same] at e; cases e; rw [z]; exact ⟨ns, t, l, u, h0, d.mo a _ h⟩
    · rw [updM_ne z] at e; exact d.mo b m e
theorem DrOk.mono {n m : Nat} {ns : List Int} {t l u : Int} (h : DrOk n ns t l u) (e : n ≤ m) : DrOk m ns t l u := ⟨h.len, by have := h.at0; omega, h.left0⟩
/-- the draw at a, told to the sign within; after it the counts are at most n + c -/
def openS (c : Nat) (a : Addr) (M : MH) (S : MH → DP → DX → Prop) (Q : DP) : Prop := ∃ n, M a = some (.dr n) ∧ ∀ ns t l u, DrOk n ns t l u →
  S (updM M a (.dK (drKvs ns t l u))) (fun r M' => ∃ ns' t' l' u', DrOk (n + c) ns' t' l' u' ∧ M' a = some (.dK (drKvs ns' t' l' u')) ∧ Q r (updM M' a (.dr (n + c)))) noX
def opened (c : Nat) (S : DSp) : DSp := fun rs M Q _ => ∃ a rest, rs = .o a :: rest ∧ openS c a M (S rs) Q
theorem DFn.opened {S : DSp} (c : Nat) (F : DFn P w K mg base k f fd ps S) : DFn P w K mg base k f fd ps (opened c S) := by
  refine ⟨fun _ _ _ _ q => q.1, fun A outer s H args us vs Q E r g e b v ⟨l, J, M, rs, Pp, xw, d, rv, ⟨a, rest, hr, n, hm, h⟩, c, cx⟩ => ?_⟩
  obtain ⟨ns, t, l', u, h0, d1⟩ := d.openD hm
  refine F.run A outer s H args us vs Q E r g e b v ⟨l, J, _, rs, _, noX, d1, rv, h ns t l' u h0, ?_, noX_cont⟩
  rintro r v J' H' M' ⟨ns', t', l'', u', h0', h1, h2⟩ e' d' rv'
  exact c r v J' H' _ h2 e' (d'.closeD h0' h1) rv'
def closedS (S : DSp) : DSp := fun rs M Q xw => S rs M (fun r M' => ∃ a n ns t l u, r = .o a ∧ DrOk n ns t l u ∧ M' a = some (.dK (drKvs ns t l u)) ∧ Q r (updM M' a (.dr n))) xw
theorem DFn.closedS {S : DSp} (F : DFn P w K mg base k f fd ps S) : DFn P w K mg base k f fd ps (closedS S) := by
  refine ⟨fun _ _ _ _ q => q.1, fun A outer s H args us vs Q E r g e b v ⟨l, J, M, rs, Pp, xw, d, rv, h, c, cx⟩ => ?_⟩
  refine F.run A outer s H args us vs Q E r g e b v ⟨l, J, _, rs, _, xw, d, rv, h, ?_, cx⟩
  rintro r v J' H' M' ⟨a, n, ns', t', l'', u', rfl, h0', h1, h2⟩ e' d' rv'
  exact c _ v J' H' _ h2 e' (d'.closeD h0' h1) rv'
end
theorem nt {A : Prop} : false = true → A := fun z => Bool.noConfusion z
theorem tn {A : Prop} : true = false → A := fun z => Bool.noConfusion z
theorem atI_nn {α : Type} {xs : List α} {i : Int} (h : 0 ≤ i) (h2 : i < xs.length) : atI xs i = xs[i.toNat]? := by
  unfold atI ixN
  rw [if_pos h, if_pos h2]; rfl
theorem atI_some {α : Type} {xs : List α} {i : Int} (h : 0 ≤ i) (h2 : i < xs.length) : ∃ r, atI xs i = some r ∧ r ∈ xs := by
  have l : i.toNat < xs.length := by omega
  exact ⟨xs[i.toNat], by rw [atI_nn h h2, List.getElem?_eq_getElem l], List.getElem_mem l⟩
/-- a fresh draw -/
def spBegin : DSp := fun rs M Q _ => ∃ ns : List Int, rs = [.scr ns] ∧ ns.length ≤ 90 ∧ ∀ a, M a = none → Q (.o a) (updM M a (.dr 0))
def spMixed : DSp := fun rs M Q _ => ∃ c k : Int, rs = [.int c, .int k] ∧ 0 ≤ k ∧ k < 2 ^ 62 ∧ ∀ i, 0 ≤ i → Q (.int i) M
/-- a number below many -/
def spNext : DSp := fun rs M Q _ => ∃ a m n, rs = [.o a, .int m] ∧ M a = some (.dr n) ∧ n < 2 ^ 60 ∧ CDivW 0 m ∧ ∀ i, 0 ≤ i → i < m → Q (.int i) (updM M a (.dr (n + 1)))
theorem divOk {m : Int} (h : 0 < m) (h2 : m < 2 ^ 64) : CDivW 0 m := wide_div (b := 64) h (by omega) (by decide) (by decide)
end DL
set_option Elab.async false
set_option linter.all false
set_option maxRecDepth 100000
set_option maxHeartbeats 2000000
set_option autoImplicit false
namespace DL
open PySem PySem.Spec L2
open PyProof.Rows hiding St
section
variable {rs : List R} {wg : WG} {g' : G} {wt : WT} {we : WE} {M : MH} (p : R → Bool) (f : R → R)
abbrev LcH (rs : List R) (wg : WG) (g' : G) (wt : WT) (we : WE) (M : MH) (p : R → Bool) (f : R → R) : Prop := ∀ r, r ∈ rs → ∀ (Pt : R → MH → Prop) (Pf : MH → Prop), (p r = true → Pt (f r) M) → (p r = false → Pf M) →
  wg r g' M (fun g2 M2 => wt g2 M2 (fun b M3 => (b = true → we g2 M3 Pt noX) ∧ (b = false → Pf M3)) noX)
theorem lcStep (h : LcH rs wg g' wt we M p f) : ∀ i r acc M', rs[i]? = some r → acc.length ≤ i → (acc = ((rs.take i).filter p).map f ∧ M' = M) →
    wg r g' M' (fun g2 M2 => wt g2 M2 (fun b M3 => (b = true → we g2 M3 (fun e M4 => (acc ++ [e] = ((rs.take (i + 1)).filter p).map f ∧ M4 = M)) noX) ∧ (b = false → (acc = ((rs.take (i + 1)).filter p).map f ∧ M3 = M))) noX) := by
  intro i r acc M' e _ ⟨ha, hm⟩
  subst hm
  have t : rs.take (i + 1) = rs.take i ++ [r] := by rw [List.take_succ, e]; rfl
  refine h r (List.mem_of_getElem? e) _ _ (fun y => ⟨?_, rfl⟩) (fun y => ⟨?_, rfl⟩)
  · rw [t, List.filter_append, List.map_append, ← ha, List.filter_cons, if_pos y]; rfl
  · rw [t, List.filter_append, List.map_append, ← ha, List.filter_cons, if_neg (by rw [y]; exact Bool.false_ne_true)]
    exact (List.append_nil _).symm
theorem lcFM {F : List R → MH → Prop} (h : LcH rs wg g' wt we M p f) (hP : F ((rs.filter p).map f) M) :
    ∃ Inv : Nat → List R → MH → Prop, Inv 0 [] M ∧
    (∀ i r acc M', rs[i]? = some r → acc.length ≤ i → Inv i acc M' → wg r g' M' (fun g2 M2 => wt g2 M2 (fun b M3 => (b = true → we g2 M3 (fun e M4 => Inv (i + 1) (acc ++ [e]) M4) noX) ∧ (b = false → Inv (i + 1) acc M3)) noX)) ∧
    (∀ acc M', acc.length ≤ rs.length → Inv rs.length acc M' → F acc M') := by
  refine ⟨fun i acc M' => acc = ((rs.take i).filter p).map f ∧ M' = M, ⟨rfl, rfl⟩, lcStep p f h, ?_⟩
  rintro acc M' _ ⟨rfl, rfl⟩
  rw [List.take_length]; exact hP
end
/-- facts of a word w wide: the bits known to be 0, those known to be 1 -/
structure Fct (w : Nat) (z o : Nat) : Prop where
  zl : z < 2 ^ w
  ol : o < 2 ^ w
  zo : z &&& o = 0
end DL
set_option Elab.async false
set_option linter.all false
set_option maxRecDepth 100000
set_option maxHeartbeats 2000000
set_option autoImplicit false
namespace DL
open PySem PySem.Spec L2
open PyProof.Rows hiding St
theorem repr_le {n : Nat} (h : n < 2 ^ 128) : (Nat.repr n).length ≤ 128 := by
  have h1 : (2 : Nat) ^ 128 ≤ 10 ^ 128 := Nat.pow_le_pow_left (by decide) 128
  have := toDigits_len_pow (b := 10) (k := 128) (n := n) (by decide) (by decide) (by omega)
  simpa [Nat.repr] using this
theorem intText_le {i : Int} (h : i.natAbs < 2 ^ 128) : (Str.ofString (toString i)).length ≤ 130 := by
  rw [ofString_len]
  cases i with
  | ofNat m =>
    have h' : m < 2 ^ 128 := h
    have := repr_le h'
    show (Nat.repr m).length ≤ _
    omega
  | negSucc m =>
    have h' : m + 1 < 2 ^ 128 := h
    have := repr_le h'
    show ("-" ++ Nat.repr (m + 1)).length ≤ _
    have h1 : "-".length = 1 := by first | rfl | decide
    rw [String.length_append, h1]
    omega
mutual
/-- what may be shown: numbers below 2 ** 128, short texts, all of it standing -/
def R.shw : R → Bool
  | .non => true
  | .bl _ => true
  | .int i => decide (i.natAbs < 2 ^ 128)
  | .str x => decide (x.length ≤ 200) && PyData.strOk x
  | .tup rs => R.shws rs
  | .lst rs => R.shws rs
  | .pt rs => R.shws rs
  | _ => false
def R.shws : List R → Bool
  | [] => true
  | r :: rs => r.shw && R.shws rs
end
mutual
/-- how many things -/
def R.cnt : R → Nat
  | .tup rs => 1 + R.cnts rs
  | .lst rs => 1 + R.cnts rs
  | .pt rs => 1 + R.cnts rs
  | _ => 1
def R.cnts : List R → Nat
  | [] => 0
  | r :: rs => r.cnt + R.cnts rs
end
mutual
def R.dep : R → Nat
  | .tup rs => 1 + R.deps rs
  | .lst rs => 1 + R.deps rs
  | .pt rs => 1 + R.deps rs
  | _ => 0
def R.deps : List R → Nat
  | [] => 0
  | r :: rs => max r.dep (R.deps rs)
end
theorem listText_le (ts : List Str) : (listText ts).length ≤ piled ts + 2 := by
  cases ts with
  | nil => exact Nat.le_refl _
  | cons t r =>
    have h := textFrom_length_pos r 1 (("[" : Str) ++ (if (0 : Nat) > 0 then ", " else "" : String) ++ t) (Nat.succ_pos 0)
    have e : ((("[" : Str) ++ (if (0 : Nat) > 0 then ", " else "" : String) ++ t)).length = 1 + t.length := by
      rw [strLen_append, strLen_append]; rfl
    have hX : (listText (t :: r)).length = (textFrom 0 "[" (t :: r)).length + 1 := by
      show (textFrom 0 "[" (t :: r) ++ "]").length = _
      rw [strLen_append]; rfl
    have hY : (textFrom 0 "[" (t :: r)).length = (textFrom 1 (("[" : Str) ++ (if (0 : Nat) > 0 then ", " else "" : String) ++ t) r).length := rfl
    rw [hX, hY, h, e, piled_cons]; omega
theorem tupleText_le (ts : List Str) : (tupleText ts).length ≤ piled ts + 3 := by
  unfold tupleText
  rw [strLen_append, strLen_append]
  have e1 : ((("(" : String) : Str)).length = 1 := rfl
  have e3 : (((if ts.length == 1 then ",)" else ")" : String) : Str)).length ≤ 2 := by split <;> decide
  rw [e1]
  by_cases h : ts = []
  · subst h
    have : (Str.join ", " ([] : List Str)).length = 0 := rfl
    omega
  · have := join_length_add ts h
    omega
mutual
theorem R.shown_le : ∀ (r : R) (d : PyData), r.shw = true → r.py = some d → d.shown.length + 2 ≤ 2105 * r.cnt ∧ d.showable = true ∧ d.hasDict = false ∧ d.depth = r.dep ∧ d.canLay0 = true
  | .non, d, _, e => by cases e; exact ⟨by decide, rfl, rfl, rfl, rfl⟩
  | .bl b, d, _, e => by cases e; exact ⟨by cases b <;> decide, rfl, rfl, rfl, rfl⟩
  | .int i, d, h, e => by
    cases e
    have h' : i.natAbs < 2 ^ 128 := of_decide_eq_true h
    refine ⟨?_, ?_, rfl, rfl, rfl⟩
    · have := intText_le h'
      show (Str.ofString (toString i)).length + 2 ≤ 2105 * 1
      omega
    · exact decide_eq_true (Nat.lt_trans (PySem.Flt.log2_lt_of (by decide) h') (by decide))
  | .str x, d, h, e => by
    cases e
    have h' : (decide (x.length ≤ 200) && PyData.strOk x) = true := h
    rw [Bool.and_eq_true, decide_eq_true_eq] at h'
    have hc : ∀ c ∈ x.cps.toList, c < 16 ^ 8 := by
      intro c hc
      have h2 : x.cps.all (· < 0x110000) = true := h'.2
      rw [Array.all_eq_true_iff_forall_mem] at h2
      have := h2 c (Array.mem_toList_iff.mp hc)
      simp at this
      omega
    have := PySem.StrLaws.reprText_len x hc
    refine ⟨?_, rfl, rfl, rfl, h'.2⟩
    show (reprText x).length + 2 ≤ 2105 * 1
    omega
  | .tup rs, d, h, e => by
    rw [R.py] at e
    obtain ⟨ds, e1, rfl⟩ := Option.map_eq_some_iff.mp e
    obtain ⟨h1, h2, h3, h4, h5⟩ := R.showns_le rs ds h e1
    refine ⟨?_, h2, h3, ?_, h5⟩
    · have := tupleText_le (PyData.shownAll ds)
      show (tupleText (PyData.shownAll ds)).length + 2 ≤ 2105 * (1 + R.cnts rs)
      omega
    · show PyData.depthAll ds + 1 = 1 + R.deps rs
      omega
  | .lst rs, d, h, e => by
    rw [R.py] at e
    obtain ⟨ds, e1, rfl⟩ := Option.map_eq_some_iff.mp e
    obtain ⟨h1, h2, h3, h4, h5⟩ := R.showns_le rs ds h e1
    refine ⟨?_, h2, h3, ?_, h5⟩
    · have := listText_le (PyData.shownAll ds)
      show (listText (PyData.shownAll ds)).length + 2 ≤ 2105 * (1 + R.cnts rs)
      omega
    · show PyData.depthAll ds + 1 = 1 + R.deps rs
      omega
  | .o _, _, h, _ => by cases h
  | .ty _, _, h, _ => by cases h
  | .scr _, _, h, _ => by cases h
  | .ex _ _ _, _, h, _ => by cases h
  | .pt rs, d, h, e => by
    rw [R.py] at e
    obtain ⟨ds, e1, rfl⟩ := Option.map_eq_some_iff.mp e
    obtain ⟨h1, h2, h3, h4, h5⟩ := R.showns_le rs ds h e1
    refine ⟨?_, h2, h3, ?_, h5⟩
    · have := tupleText_le (PyData.shownAll ds)
      show (tupleText (PyData.shownAll ds)).length + 2 ≤ 2105 * (1 + R.cnts rs)
      omega
    · show PyData.depthAll ds + 1 = 1 + R.deps rs
      omega
theorem R.showns_le : ∀ (rs : List R) (ds : List PyData), R.shws rs = true → R.pys rs = some ds → piled (PyData.shownAll ds) ≤ 2105 * R.cnts rs ∧ PyData.showableAll ds = true ∧ PyData.hasDictAll ds = false ∧ PyData.depthAll ds = R.deps rs ∧ PyData.canLayAll0 ds = true
  | [], ds, _, e => by cases e; exact ⟨Nat.le_refl _, rfl, rfl, rfl, rfl⟩
  | r :: rs, ds, h, e => by
    have h' : (r.shw && R.shws rs) = true := h
    rw [Bool.and_eq_true] at h'
    rw [R.pys] at e
    cases e1 : r.py with
    | none => rw [e1] at e; cases e
    | some d =>
      cases e2 : R.pys rs with
      | none => rw [e1, e2] at e; cases e
      | some ds' =>
        rw [e1, e2] at e
        cases e
        obtain ⟨a1, a2, a3, a4, a5⟩ := R.shown_le r d h'.1 e1
        obtain ⟨b1, b2, b3, b4, b5⟩ := R.showns_le rs ds' h'.2 e2
        refine ⟨?_, ?_, ?_, ?_, ?_⟩
        · show piled (d.shown :: PyData.shownAll ds') ≤ 2105 * (r.cnt + R.cnts rs)
          rw [piled_cons]; omega
        · show (d.showable && PyData.showableAll ds') = true
          rw [a2, b2]; rfl
        · show (d.hasDict || PyData.hasDictAll ds') = false
          rw [a3, b3]; rfl
        · show max d.depth (PyData.depthAll ds') = max r.dep (R.deps rs)
          rw [a4, b4]
        · show (d.canLay0 && PyData.canLayAll0 ds') = true
          rw [a5, b5]; rfl
end
mutual
theorem R.py_some : ∀ r : R, r.shw = true → ∃ d, r.py = some d
  | .non, _ => ⟨_, rfl⟩
  | .bl _, _ => ⟨_, rfl⟩
  | .int _, _ => ⟨_, rfl⟩
  | .str _, _ => ⟨_, rfl⟩
  | .tup rs, h => by
    obtain ⟨ds, e⟩ := R.pys_some rs h
    exact ⟨.tuple ds, by rw [R.py, e]; rfl⟩
  | .lst rs, h => by
    obtain ⟨ds, e⟩ := R.pys_some rs h
    exact ⟨.list ds, by rw [R.py, e]; rfl⟩
  | .o _, h => by cases h
  | .ty _, h => by cases h
  | .scr _, h => by cases h
  | .ex _ _ _, h => by cases h
  | .pt rs, h => by
    obtain ⟨ds, e⟩ := R.pys_some rs h
    exact ⟨.tuple ds, by rw [R.py, e]; rfl⟩
theorem R.pys_some : ∀ rs : List R, R.shws rs = true → ∃ ds, R.pys rs = some ds
  | [], _ => ⟨_, rfl⟩
  | r :: rs, h => by
    have h' : (r.shw && R.shws rs) = true := h
    rw [Bool.and_eq_true] at h'
    obtain ⟨d, e1⟩ := R.py_some r h'.1
    obtain ⟨ds, e2⟩ := R.pys_some rs h'.2
    exact ⟨d :: ds, by rw [R.pys, e1, e2]⟩
end
/-- a tuple or a list that stands -/
def R.seq : R → Bool
  | .tup _ => true
  | .lst _ => true
  | _ => false
/-- == and != of what may be shown -/
theorem R.shaped_of {r : R} {d : PyData} (h : r.shw = true) (hd : r.dep ≤ 60) (e : r.py = some d) : SeqAt.shaped d = true := by
  obtain ⟨_, _, _, h4, h5⟩ := R.shown_le r d h e
  unfold SeqAt.shaped
  rw [h5, Bool.true_and]
  exact decide_eq_true (by omega)
theorem eqvNil (ds : List PyData) : PyData.eqv (.list ds) (.list []) = ds.isEmpty := by
  cases ds <;> rfl
/-- what repr asks and gives, of a tuple or a list that stands -/
theorem reprD {r : R} (h : r.shw = true) (hc : Nat.ble r.cnt 5000 = true) (hd : Nat.ble r.dep 40 = true) : ∃ d, r.py = some d ∧ d.showable = true ∧ d.hasDict = false ∧ d.depth ≤ 50 ∧ d.shown.length ≤ sizeLine ∧ SeqAt.shaped d = true := by
  obtain ⟨d, e⟩ := R.py_some r h
  obtain ⟨h1, h2, h3, h4, h5⟩ := R.shown_le r d h e
  have sl : sizeLine = 16777216 := by decide
  have hc' := Nat.le_of_ble_eq_true hc
  have hd' := Nat.le_of_ble_eq_true hd
  exact ⟨d, e, h2, h3, by omega, by omega, R.shaped_of h (by omega) e⟩
theorem noNe {s : Str} {A : Prop} : (!decide (s = s)) = true → A := fun y => by rw [decide_eq_true rfl] at y; cases y
end DL
set_option Elab.async false
set_option linter.all false
set_option maxRecDepth 100000
set_option maxHeartbeats 2000000
set_option autoImplicit false
namespace DL
open PySem PySem.Spec L2
open PyProof.Rows hiding St
abbrev AlM : Type := He.AlD × Bool
abbrev Tabs := List (Str × List He.Dv)
def tabsOk (ts : Tabs) (K : PySem.W.Frag) : Bool := ts.all fun p => He.tupB K p.1 p.2
def obsM (fa : List He.Fa) (fn : List He.DefD) (ts : Tabs) (K : PySem.W.Frag) : AlM := (He.obsD fa fn K, tabsOk ts K)
def SaysM (fa : List He.Fa) (fn : List He.DefD) (ts : Tabs) (K : PySem.W.Frag) : Prop := obsM fa fn ts K = (He.valD fn, true)
section
variable {fa : List He.Fa} {fn : List He.DefD} {ts : Tabs} {K : PySem.W.Frag}
theorem SaysM.d (c : SaysM fa fn ts K) : He.SaysD fa fn K := congrArg (fun z : AlM => z.1) c
end
end DL
set_option Elab.async false
set_option linter.all false
set_option maxRecDepth 100000
set_option maxHeartbeats 2000000
set_option autoImplicit false
namespace DL
open PySem PySem.Spec L2
open PyProof.Rows hiding St
abbrev F2 := Nat × Nat
abbrev f2R (f : F2) : R := .tup [.int f.1, .int f.2]
def fullN (w : Nat) : Nat := 2 ^ w - 1
def commonN (f g : F2) : F2 := (f.1 &&& g.1, f.2 &&& g.2)
/-- a fact of a word w wide -/
def Fc (w : Nat) (f : F2) : Prop := Fct w f.1 f.2
end DL
set_option Elab.async false
set_option linter.all false
set_option maxRecDepth 100000
set_option maxHeartbeats 2000000
set_option autoImplicit false
namespace DL
open PySem PySem.Spec L2
open PyProof.Rows hiding St
/-- x is a word with these facts -/
structure Fits (w : Nat) (f : F2) (x : Nat) : Prop where
  lt : x < 2 ^ w
  z : x &&& f.1 = 0
  o : x &&& f.2 = f.2
theorem Fits.bz {w : Nat} {f : F2} {x : Nat} (h : Fits w f x) {k : Nat} (hk : f.1.testBit k = true) : x.testBit k = false := by
  have e := congrArg (fun n => n.testBit k) h.z
  simp only [Nat.testBit_and, Nat.zero_testBit, hk, Bool.and_true] at e
  exact e
theorem Fits.bo {w : Nat} {f : F2} {x : Nat} (h : Fits w f x) {k : Nat} (hk : f.2.testBit k = true) : x.testBit k = true := by
  have e := congrArg (fun n => n.testBit k) h.o
  simp only [Nat.testBit_and, hk, Bool.and_true] at e
  exact e
theorem fits_of {w : Nat} {f : F2} {x : Nat} (hl : x < 2 ^ w) (hz : ∀ k, f.1.testBit k = true → x.testBit k = false) (ho : ∀ k, f.2.testBit k = true → x.testBit k = true) : Fits w f x := by
  refine ⟨hl, Nat.eq_of_testBit_eq fun k => ?_, Nat.eq_of_testBit_eq fun k => ?_⟩
  · rw [Nat.testBit_and, Nat.zero_testBit]
    cases e : f.1.testBit k with
    | false => rw [Bool.and_false]
    | true => rw [hz k e]; rfl
  · rw [Nat.testBit_and]
    cases e : f.2.testBit k with
    | false => rw [Bool.and_false]
    | true => rw [ho k e]; rfl
theorem Fct.no {w z o : Nat} (h : Fct w z o) {k : Nat} (hz : z.testBit k = true) : o.testBit k = false := by
  have e := congrArg (fun n => n.testBit k) h.zo
  simp only [Nat.testBit_and, Nat.zero_testBit, hz, Bool.true_and] at e
  exact e
/-- what is known of all of S, and no more -/
structure Exact (w : Nat) (S : Nat → Prop) (r : F2) : Prop where
  zl : r.1 < 2 ^ w
  ol : r.2 < 2 ^ w
  bz : ∀ k, k < w → (r.1.testBit k = true ↔ ∀ y, S y → y.testBit k = false)
  bo : ∀ k, k < w → (r.2.testBit k = true ↔ ∀ y, S y → y.testBit k = true)
/-- every bit of a is one of b -/
def BSub (a b : Nat) : Prop := ∀ k, a.testBit k = true → b.testBit k = true
theorem BSub.le {a b : Nat} (h : BSub a b) : a ≤ b := by
  have e : a ||| b = b := Nat.eq_of_testBit_eq fun k => by
    rw [Nat.testBit_or]
    cases e : a.testBit k with
    | false => rfl
    | true => rw [h k e]; rfl
  have : a ≤ a ||| b := Nat.left_le_or
  omega
theorem BSub.mod {a b : Nat} (h : BSub a b) (k : Nat) : a % 2 ^ k ≤ b % 2 ^ k := by
  refine BSub.le fun j hj => ?_
  rw [Nat.testBit_mod_two_pow] at hj ⊢
  rw [Bool.and_eq_true] at hj
  rw [hj.1, h j hj.2]; rfl
/-- two results that differ at k -/
def Split (S : Nat → Prop) (k : Nat) : Prop := ∃ y y', S y ∧ S y' ∧ y.testBit k ≠ y'.testBit k
theorem Split.z {S : Nat → Prop} {k : Nat} (h : Split S k) (v : Bool) : ¬ ∀ y, S y → y.testBit k = v := fun q => by
  obtain ⟨y, y', h1, h2, h3⟩ := h
  exact h3 ((q y h1).trans (q y' h2).symm)
end DL
set_option Elab.async false
set_option linter.all false
set_option maxRecDepth 100000
set_option maxHeartbeats 2000000
set_option autoImplicit false
set_option Elab.async false
set_option linter.all false
set_option maxRecDepth 100000
set_option maxHeartbeats 2000000
set_option autoImplicit false
namespace DL
open PySem PySem.Spec L2
open PyProof.Rows hiding St
inductive Xp where
  | num (n : Nat) | cop (a : Str) | mov (up : Bool) (a : Str) (m : Nat) | pic (a b c : Str) | par (x a b : Str)
def mvw (up : Bool) : Str := if up = true then "up" else "down"
def Xp.r : Xp → R
  | .num n => .tup [.str "number", .int n]
  | .cop a => .tup [.str "copy", .str a]
  | .mov u a m => .tup [.str (mvw u), .str a, .int m]
  | .pic a b c => .tup [.str "pick", .str a, .str b, .str c]
  | .par x a b => .tup [.str x, .str a, .str b]
def Xp.names : Xp → List Str
  | .num _ => []
  | .cop a => [a]
  | .mov _ a _ => [a]
  | .pic a b c => [a, b, c]
  | .par _ a b => [a, b]
def pairWords : List Str := ["add", "less", "and", "or", "unlike", "same", "below"]
def Xp.Ok : Xp → Prop
  | .mov _ _ m => m ≤ 1000
  | .par x _ _ => x ∈ pairWords
  | _ => True
theorem Exact.tr {w : Nat} {S T : Nat → Prop} {r : F2} (e : Exact w S r) (q : ∀ y, S y ↔ T y) : Exact w T r := by
  have : S = T := funext fun y => propext (q y)
  rwa [this] at e
end DL
set_option Elab.async false
set_option linter.all false
set_option maxRecDepth 100000
set_option maxHeartbeats 2000000
set_option autoImplicit false
namespace DL
open PySem PySem.Spec L2
open PyProof.Rows hiding St
theorem KRV.mem {K : PySem.W.Frag} {J : Jp} : ∀ {ks : List (Key × R)} {ws : List (Key × V)}, KRV K J ks ws → ∀ q ∈ ws, ∃ p ∈ ks, p.1 = q.1 ∧ RV K J p.2 q.2
  | _, _, .nil, q, h => absurd h List.not_mem_nil
  | _, _, .cons a t, q, h => by
    rcases List.mem_cons.mp h with rfl | h'
    · exact ⟨_, List.mem_cons_self, a⟩
    · obtain ⟨p, hp, e⟩ := KRV.mem t q h'
      exact ⟨p, List.mem_cons_of_mem _ hp, e⟩
end DL
set_option Elab.async false
set_option linter.all false
set_option maxRecDepth 100000
set_option maxHeartbeats 2000000
set_option autoImplicit false
set_option Elab.async false
set_option linter.all false
set_option maxRecDepth 100000
set_option maxHeartbeats 4000000
set_option autoImplicit false
namespace DL
open PySem PySem.Spec L2
open PyProof.Rows hiding St
section
variable {X : Cx}
theorem refs_vals : ∀ {bs : List Addr} {us : List Value}, Vals (bs.map V.ref) us → us = bs.map Value.ref
  | [], _, .nil => rfl
  | b :: bs, _, .cons r t => by
    cases r
    rw [refs_vals t]; rfl
end
end DL
set_option Elab.async false
set_option linter.all false
set_option maxRecDepth 100000
set_option maxHeartbeats 2000000
set_option autoImplicit false
namespace DL
open PySem PySem.Spec L2
open PyProof.Rows hiding St
/-- what a bit may be: 0, 1 -/
abbrev BB := Bool × Bool
def al (b : BB) (v : Bool) : Bool := if v = true then b.2 else b.1
abbrev BD := Nat → BB
/-- a choice for each bit -/
def Ch (w : Nat) (D : BD) (f : Nat → Bool) : Prop := ∀ k, k < w → al (D k) (f k) = true
theorem Ch.set {w : Nat} {D : BD} {f : Nat → Bool} (h : Ch w D f) {k : Nat} {v : Bool} (hv : al (D k) v = true) : Ch w D (fun j => if j = k then v else f j) := fun j hj => by
  show al (D j) (if j = k then v else f j) = true
  split
  · rename_i e; rw [e]; exact hv
  · exact h j hj
end DL
set_option Elab.async false
set_option linter.all false
set_option maxRecDepth 100000
set_option maxHeartbeats 2000000
set_option autoImplicit false
namespace DL
open PySem PySem.Spec L2
open PyProof.Rows hiding St
/-- what is carried: its run, all that it may be -/
def run (φ : Bool → Bool → Bool → Bool) (f g : Nat → Bool) : Nat → Bool
  | 0 => false
  | k + 1 => φ (f k) (g k) (run φ f g k)
end DL
set_option Elab.async false
set_option linter.all false
set_option maxRecDepth 100000
set_option maxHeartbeats 2000000
set_option autoImplicit false
namespace DL
open PySem PySem.Spec L2
open PyProof.Rows hiding St
section
variable {κ : Type} [DecidableEq κ] {kvs : List (κ × R)} {k j : κ} {v : R}
theorem vcons (p : κ × R) : valR (p :: kvs) j = if p.1 = j then some p.2 else valR kvs j := by
  unfold valR
  rw [List.find?_cons]
  by_cases h : p.1 = j
  · rw [if_pos h, decide_eq_true h]; rfl
  · rw [if_neg h, decide_eq_false h]
theorem vmapPut : ∀ kvs : List (κ × R), valR (kvs.map fun kv => if kv.1 = k then (kv.1, v) else kv) j = if j = k then (if (kvs.any fun kv => decide (kv.1 = k)) = true then some v else none) else valR kvs j
  | [] => by
    show none = _
    split <;> rfl
  | p :: kvs => by
    rw [List.map_cons, vcons, vcons, vmapPut kvs, List.any_cons]
    by_cases h : p.1 = k
    · rw [if_pos h]
      by_cases e : j = k
      · rw [if_pos (by rw [e]; exact h), if_pos e, decide_eq_true h]; rfl
      · rw [if_neg (fun z => e (by rw [← z]; exact h)), if_neg e, if_neg e, if_neg (fun z => e (by rw [← z]; exact h))]
    · rw [if_neg h]
      by_cases e : j = k
      · rw [if_neg (fun z => h (by rw [z]; exact e)), if_pos e, if_pos e, decide_eq_false h, Bool.false_or]
      · rw [if_neg e, if_neg e]
theorem vapp : ∀ kvs : List (κ × R), (kvs.any fun kv => decide (kv.1 = k)) = false → valR (kvs ++ [(k, v)]) j = if j = k then some v else valR kvs j
  | [], _ => by
    show valR [(k, v)] j = _
    rw [vcons]
    by_cases e : j = k
    · rw [if_pos e.symm, if_pos e]
    · rw [if_neg (fun z => e z.symm), if_neg e]
  | p :: kvs, h => by
    rw [List.any_cons, Bool.or_eq_false_iff] at h
    rw [List.cons_append, vcons, vcons, vapp kvs h.2]
    by_cases e : j = k
    · rw [if_neg (fun z => of_decide_eq_false h.1 (by rw [z]; exact e)), if_pos e, if_pos e]
    · rw [if_neg e, if_neg e]
theorem vput (kvs : List (κ × R)) : valR (putR kvs k v) j = if j = k then some v else valR kvs j := by
  unfold putR
  by_cases h : (kvs.any fun kv => decide (kv.1 = k)) = true
  · rw [if_pos h, vmapPut, if_pos h]
  · rw [if_neg h, vapp kvs (Bool.eq_false_iff.mpr h)]
theorem vput_len (kvs : List (κ × R)) (k : κ) (v : R) : (putR kvs k v).length ≤ kvs.length + 1 := by
  unfold putR
  split
  · rw [List.length_map]; omega
  · rw [List.length_append]; exact Nat.le_refl _
end
inductive Rw where
  | set (a : Str) (e : Xp)
  | tell (a : Str)
  | iff (a : Str) (p q : List Rw)
  | rnd (n : Nat) (p : List Rw)
mutual
def Rw.r : Rw → R
  | .set a e => .tup [.str "set", .str a, e.r]
  | .tell a => .tup [.str "tell", .str a]
  | .iff a p q => .tup [.str "if", .str a, .tup (Rw.rl p), .tup (Rw.rl q)]
  | .rnd n p => .tup [.str "round", .int n, .tup (Rw.rl p)]
def Rw.rl : List Rw → List R
  | [] => []
  | x :: xs => x.r :: Rw.rl xs
end
mutual
/-- how many rows -/
def Rw.ct : Rw → Nat
  | .set _ _ => 1
  | .tell _ => 1
  | .iff _ p q => 1 + (Rw.ctl p + Rw.ctl q)
  | .rnd _ p => 1 + Rw.ctl p
def Rw.ctl : List Rw → Nat
  | [] => 0
  | x :: xs => x.ct + Rw.ctl xs
end
mutual
/-- the names that are there behind -/
def Rw.th (known : List Str) : Rw → List Str
  | .set a _ => if a ∈ known then known else known ++ [a]
  | .tell _ => known
  | .iff _ p q => (Rw.thl known p).filter fun a => decide (a ∈ Rw.thl known q)
  | .rnd n p => if 0 < n then Rw.thl known p else known
def Rw.thl (known : List Str) : List Rw → List Str
  | [] => known
  | x :: xs => Rw.thl (x.th known) xs
end
mutual
/-- only names that are there are used -/
def Rw.So (known : List Str) : Rw → Prop
  | .set _ e => ∀ a ∈ e.names, a ∈ known
  | .tell a => a ∈ known
  | .iff a p q => a ∈ known ∧ Rw.Sol known p ∧ Rw.Sol known q
  | .rnd _ p => Rw.Sol known p
def Rw.Sol (known : List Str) : List Rw → Prop
  | [] => True
  | x :: xs => Rw.So known x ∧ Rw.Sol (x.th known) xs
end
end DL
set_option Elab.async false
set_option linter.all false
set_option maxRecDepth 100000
set_option maxHeartbeats 2000000
set_option autoImplicit false
set_option Elab.async false
set_option linter.all false
set_option maxRecDepth 100000
set_option maxHeartbeats 2000000
set_option autoImplicit false
namespace DL
open PySem PySem.Spec L2
open PyProof.Rows hiding St
def pairI (x : Str) (p q : Nat) : Int :=
  if x = "add" then ((p + q : Nat) : Int) else if x = "less" then (p : Int) - q else if x = "and" then ((p &&& q : Nat) : Int) else if x = "or" then ((p ||| q : Nat) : Int)
  else if x = "unlike" then ((p ^^^ q : Nat) : Int) else if x = "same" then (if p = q then 1 else 0) else (if p < q then 1 else 0)
/-- what an expression comes to, ahead of its cut -/
def Xp.ev (env : Str → Nat) : Xp → Int
  | .num n => (n : Int)
  | .cop a => (env a : Int)
  | .mov u a m => if u = true then ((env a * 2 ^ m : Nat) : Int) else ((env a / 2 ^ m : Nat) : Int)
  | .pic a b c => if env a = 0 then (env c : Int) else (env b : Int)
  | .par x a b => pairI x (env a) (env b)
structure Gs where
  env : Str → Nat
  told : List Nat
  trail : List (Nat × Nat)
  lost : List Nat
def upS (env : Str → Nat) (a : Str) (v : Nat) : Str → Nat := fun b => if b = a then v else env b
def lossy (w : Nat) (i : Int) : Bool := !(decide (0 ≤ i) && decide (i < 2 ^ w))
def setG (w k : Nat) (a : Str) (i : Int) (pl : Nat) (s : Gs) : Gs :=
  ⟨upS s.env a (i % 2 ^ k).toNat, s.told, s.trail ++ [(pl, (i % 2 ^ k).toNat)], if lossy w i = true then s.lost ++ [pl] else s.lost⟩
def tellG (a : Str) (pl : Nat) (s : Gs) : Gs := ⟨s.env, s.told ++ [s.env a], s.trail ++ [(pl, s.env a)], s.lost⟩
def askG (a : Str) (pl : Nat) (s : Gs) : Gs := ⟨s.env, s.told, s.trail ++ [(pl, s.env a)], s.lost⟩
def iterG (f : Gs → Gs) : Nat → Gs → Gs
  | 0, s => s
  | n + 1, s => f (iterG f n s)
mutual
def Rw.go (w : Nat) (kp : Nat → Nat) : Rw → Nat → Gs → Gs
  | .set a e, pl, s => setG w (kp pl) a (e.ev s.env) pl s
  | .tell a, pl, s => tellG a pl s
  | .iff a p q, pl, s => if s.env a = 0 then Rw.gol w kp q (pl + 1 + Rw.ctl p) (askG a pl s) else Rw.gol w kp p (pl + 1) (askG a pl s)
  | .rnd n p, pl, s => iterG (fun s => Rw.gol w kp p (pl + 1) s) n s
def Rw.gol (w : Nat) (kp : Nat → Nat) : List Rw → Nat → Gs → Gs
  | [], _, s => s
  | x :: xs, pl, s => Rw.gol w kp xs (pl + x.ct) (x.go w kp pl s)
end
structure WdOk (n : Nat) (known : List Str) (env : Str → Nat) (kvs : List (Key × R)) : Prop where
  at' : ∀ a ∈ known, valR kvs (.inr a) = some (.int (env a : Nat))
  ln : kvs.length ≤ n
  ks : ∀ kv ∈ kvs, ∃ a, kv.1 = .inr a ∧ kv.2 = .int (env a : Nat)
  nd : (kvs.map (·.1)).Nodup
theorem WdOk.sub {n : Nat} {known known' : List Str} {env : Str → Nat} {kvs : List (Key × R)} (h : WdOk n known env kvs) (s : ∀ a ∈ known', a ∈ known) : WdOk n known' env kvs := ⟨fun a ha => h.at' a (s a ha), h.ln, h.ks, h.nd⟩
theorem WdOk.put {n : Nat} {known : List Str} {env : Str → Nat} {kvs : List (Key × R)} (h : WdOk n known env kvs) (a : Str) (v : Nat) : WdOk (n + 1) (if a ∈ known then known else known ++ [a]) (upS env a v) (putR kvs (.inr a) (.int (v : Nat))) := by
  refine ⟨fun b hb => ?_, Nat.le_trans (vput_len ..) (Nat.succ_le_succ h.ln), fun kv hkv => ?_, ?_⟩
  · rw [vput]
    unfold upS
    by_cases e : b = a
    · rw [if_pos (by rw [e]), if_pos e]
    · rw [if_neg (fun z => e (Sum.inr.inj z)), if_neg e]
      refine h.at' b ?_
      split at hb
      · exact hb
      · rcases List.mem_append.mp hb with hb | hb
        · exact hb
        · exact absurd (List.mem_singleton.mp hb) e
  · unfold putR at hkv
    by_cases q : (kvs.any fun kv => decide (kv.1 = (.inr a : Key))) = true
    · rw [if_pos q] at hkv
      obtain ⟨k0, h0, rfl⟩ := List.mem_map.mp hkv
      obtain ⟨b, h1, h2⟩ := h.ks k0 h0
      by_cases e : k0.1 = (.inr a : Key)
      · rw [if_pos e]
        exact ⟨a, e, by show R.int (v : Nat) = _; unfold upS; rw [if_pos rfl]⟩
      · rw [if_neg e]
        refine ⟨b, h1, ?_⟩
        unfold upS
        rw [if_neg (fun z => e (by rw [h1, z])), h2]
    · rw [if_neg q] at hkv
      rcases List.mem_append.mp hkv with h0 | h0
      · obtain ⟨b, h1, h2⟩ := h.ks kv h0
        refine ⟨b, h1, ?_⟩
        unfold upS
        rw [if_neg (fun z => q (List.any_eq_true.mpr ⟨kv, h0, decide_eq_true (by rw [h1, z])⟩)), h2]
      · rw [List.mem_singleton.mp h0]
        exact ⟨a, rfl, by unfold upS; rw [if_pos rfl]⟩
  · unfold putR
    by_cases q : (kvs.any fun kv => decide (kv.1 = (.inr a : Key))) = true
    · rw [if_pos q, List.map_map]
      have e : (kvs.map ((·.1) ∘ fun kv => if kv.1 = (.inr a : Key) then (kv.1, R.int (v : Nat)) else kv)) = kvs.map (·.1) := List.map_congr_left fun kv _ => by
        show (if kv.1 = (.inr a : Key) then (kv.1, R.int (v : Nat)) else kv).1 = kv.1
        split <;> rfl
      rw [e]; exact h.nd
    · rw [if_neg q, List.map_append, List.nodup_append]
      refine ⟨h.nd, by simp, fun x hx y hy e => q ?_⟩
      obtain ⟨kv, h1, h2⟩ := List.mem_map.mp hx
      rw [List.mem_singleton.mp hy] at e
      exact List.any_eq_true.mpr ⟨kv, h1, decide_eq_true (h2.trans e)⟩
mutual
/-- how many rounds within one another -/
def Rw.tr : Rw → Nat
  | .set _ _ => 0
  | .tell _ => 0
  | .iff _ p q => max (Rw.trl p) (Rw.trl q)
  | .rnd _ p => Rw.trl p + 1
def Rw.trl : List Rw → Nat
  | [] => 0
  | x :: xs => max x.tr (Rw.trl xs)
end
end DL
set_option Elab.async false
set_option linter.all false
set_option maxRecDepth 100000
set_option maxHeartbeats 2000000
set_option autoImplicit false
set_option Elab.async false
set_option linter.all false
set_option maxRecDepth 100000
set_option maxHeartbeats 2000000
set_option autoImplicit false
set_option Elab.async false
set_option linter.all false
set_option maxRecDepth 100000
set_option maxHeartbeats 2000000
set_option autoImplicit false
set_option Elab.async false
set_option linter.all false
set_option maxRecDepth 100000
set_option maxHeartbeats 3200000
set_option autoImplicit false
set_option Elab.async false
set_option linter.all false
set_option maxRecDepth 100000
set_option maxHeartbeats 2000000
set_option autoImplicit false
namespace DL
open PySem PySem.Spec L2
open PyProof.Rows hiding St
/-- what the written part says of an own exception class -/
structure XcOk (K : PySem.W.Frag) (C : Addr) : Prop where
  hcl : (PySem.W.clsIn K C).isSome = true
  ga : PySem.W.findIn K (.ref C) "__getattribute__" = some (some (.builtin "BaseException.__getattribute__"))
  gg : PySem.W.findIn K (.ref C) "__getattr__" = some none
  sb : PySem.W.subIn K (.ref C) (.type "BaseException") = some true
  ac : PySem.W.findIn K (.ref C) "__class__" = some (some (.builtin "object.__class__"))
  sp : PySem.W.specialIn K (.builtin "object.__class__") "__get__" = some (some (.builtin "getset_descriptor.__get__"))
  tk : PySem.W.takesIn K (.builtin "object.__class__") = some true
  mo : PySem.W.mroIn K C (.type "object") = some true
  hd : PySem.W.hasDictIn K C = true
  ty : PySem.W.typeIn K (.ref C) = some (.type "type")
  kp : PySem.W.keepIn K (.ref C) = true
def xcB (K : PySem.W.Frag) (C : Addr) : Bool :=
  (PySem.W.clsIn K C).isSome && (decide (PySem.W.findIn K (.ref C) "__getattribute__" = some (some (.builtin "BaseException.__getattribute__"))) && (decide (PySem.W.findIn K (.ref C) "__getattr__" = some none) &&
    (decide (PySem.W.subIn K (.ref C) (.type "BaseException") = some true) && (decide (PySem.W.findIn K (.ref C) "__class__" = some (some (.builtin "object.__class__"))) &&
      (decide (PySem.W.specialIn K (.builtin "object.__class__") "__get__" = some (some (.builtin "getset_descriptor.__get__"))) && (decide (PySem.W.takesIn K (.builtin "object.__class__") = some true) &&
        (decide (PySem.W.mroIn K C (.type "object") = some true) && (PySem.W.hasDictIn K C && (decide (PySem.W.typeIn K (.ref C) = some (.type "type")) && PySem.W.keepIn K (.ref C))))))))))
theorem bAnd {a b : Bool} (h : (a && b) = true) : a = true ∧ b = true := Bool.and_eq_true_iff.mp h
theorem xcB_ok {K : PySem.W.Frag} {C : Addr} (h : xcB K C = true) : XcOk K C := by
  obtain ⟨h1, h⟩ := bAnd h
  obtain ⟨h2, h⟩ := bAnd h
  obtain ⟨h3, h⟩ := bAnd h
  obtain ⟨h4, h⟩ := bAnd h
  obtain ⟨h5, h⟩ := bAnd h
  obtain ⟨h6, h⟩ := bAnd h
  obtain ⟨h7, h⟩ := bAnd h
  obtain ⟨h8, h⟩ := bAnd h
  obtain ⟨h9, h⟩ := bAnd h
  obtain ⟨h10, h11⟩ := bAnd h
  exact ⟨h1, of_decide_eq_true h2, of_decide_eq_true h3, of_decide_eq_true h4, of_decide_eq_true h5, of_decide_eq_true h6, of_decide_eq_true h7, of_decide_eq_true h8, h9, of_decide_eq_true h10, h11⟩
/-- the same of a class with an __init__ of its own: f1, f2 its fields -/
structure XiOk (K : PySem.W.Frag) (C : Addr) (f1 f2 : Str) : Prop where
  ox : OexC K C
  n1 : PySem.W.findIn K (.ref C) f1 = some none
  n2 : PySem.W.findIn K (.ref C) f2 = some none
  iC : PySem.W.findIn K (.ref C) "__init__" = some (some (.ref (He.ma K C "__init__")))
  tI : PySem.W.typeIn K (.ref (He.ma K C "__init__")) = some (.type "function")
def oexB (K : PySem.W.Frag) (C : Addr) : Bool := match K.lookup C with
  | some ⟨c0, _, .cls cd, sl⟩ => decide (c0 = .type "type") && (match cd.mro, sl.toList with
    | .ref C2 :: bm, [_, _, _, _, some v4, _] => decide (C2 = C) && (decide (v4 = .builtin "ValueError.__new__") && (HandSPX.refsVE bm && (cd.hasDict && !cd.hasDel)))
    | _, _ => false)
  | _ => false
def xiB (K : PySem.W.Frag) (C : Addr) (f1 f2 : Str) : Bool :=
  oexB K C && (decide (PySem.W.findIn K (.ref C) "__setattr__" = some (some (.builtin "object.__setattr__"))) && (decide (PySem.W.findIn K (.ref C) f1 = some none) && (decide (PySem.W.findIn K (.ref C) f2 = some none) &&
    (decide (PySem.W.findIn K (.ref C) "__init__" = some (some (.ref (He.ma K C "__init__")))) && decide (PySem.W.typeIn K (.ref (He.ma K C "__init__")) = some (.type "function"))))))
theorem oexB_ok {K : PySem.W.Frag} {C : Addr} (h : oexB K C = true) : ∃ nm q N bs bm sn sub ab col dd k0 k1 k2 k3 k5, K.lookup C = some (excClassObj nm q C N bs bm true sn sub ab col dd k0 k1 k2 k3 k5 "ValueError.__new__") ∧ HandSPX.refsVE bm = true := by
  unfold oexB at h
  split at h
  · rename_i c0 dd cd sl e
    obtain ⟨h0, h⟩ := bAnd h
    split at h
    · rename_i C2 bm k0 k1 k2 k3 v4 k5 e1 e2
      obtain ⟨h1, h⟩ := bAnd h
      obtain ⟨h2, h⟩ := bAnd h
      obtain ⟨h3, h⟩ := bAnd h
      obtain ⟨h4, h5⟩ := bAnd h
      have g0 := of_decide_eq_true h0
      have g1 := of_decide_eq_true h1
      have g2 := of_decide_eq_true h2
      obtain ⟨nm, bs, mro, ns, qn, hd, sn, sub, ab, col, del⟩ := cd
      dsimp only at e1 h4 h5
      have h6 : del = false := by simpa using h5
      obtain ⟨l⟩ := sl
      dsimp only at e2
      subst g0 g1 g2 e1 e2 h4 h6
      exact ⟨nm, qn, ns, bs, bm, sn, sub, ab, col, dd, k0, k1, k2, k3, k5, e, h3⟩
    · cases h
  · cases h
theorem xiB_ok {K : PySem.W.Frag} {C : Addr} {f1 f2 : Str} (T : XcOk K C) (h : xiB K C f1 f2 = true) : XiOk K C f1 f2 := by
  obtain ⟨h1, h⟩ := bAnd h
  obtain ⟨h2, h⟩ := bAnd h
  obtain ⟨h3, h⟩ := bAnd h
  obtain ⟨h4, h⟩ := bAnd h
  obtain ⟨h5, h6⟩ := bAnd h
  exact ⟨⟨oexB_ok h1, of_decide_eq_true h2, T.sb, T.ty, T.kp⟩, of_decide_eq_true h3, of_decide_eq_true h4, of_decide_eq_true h5, of_decide_eq_true h6⟩
/-- all own exception classes, by their names, under base; those with fields -/
structure XTab where
  base : Str
  ns : List Str
  fs : List (Str × Str × Str)
def XTab.ok (t : XTab) (K : PySem.W.Frag) : Bool :=
  (t.ns.all fun p => xcB K (He.ga K p) && ((t.ns.all fun q => decide (PySem.W.exmOne K (.ref (He.ga K p)) (.ref (He.ga K q)) = some (decide (q = p) || decide (q = t.base)))) && (decide (PySem.W.kitOne K (.ref (He.ga K p)) (.type "ValueError") = some true) &&
    (decide (PySem.W.kitOne K (.type "NoneType") (.ref (He.ga K p)) = some false) && (t.ns.all fun q => decide (PySem.W.kitOne K (.ref (He.ga K p)) (.ref (He.ga K q)) = some (decide (q = p) || decide (q = t.base)))) &&
      ((t.fs.map (·.1)).contains p || PySem.W.excIn K (He.ga K p) He.veBase "ValueError.__new__"))))) && ((t.fs.all fun f => xiB K (He.ga K f.1) f.2.1 f.2.2 && t.ns.contains f.1) &&
    (decide (PySem.W.specialIn K (.ref (He.ga K t.base)) "__getattribute__" = some (some (.builtin "type.__getattribute__"))) && (PySem.W.readsIn K (He.ga K t.base) (.type "type") &&
      (match PySem.W.findCls K (.ref (He.ga K t.base)) (.type "type") "__init__" with | some (.val v) => decide (v = .builtin "ValueError.__init__") | _ => false))))
structure XTabOk (t : XTab) (K : PySem.W.Frag) : Prop where
  c : ∀ p ∈ t.ns, XcOk K (He.ga K p)
  m : ∀ p ∈ t.ns, ∀ q ∈ t.ns, PySem.W.exmOne K (.ref (He.ga K p)) (.ref (He.ga K q)) = some (decide (q = p) || decide (q = t.base))
  v : ∀ p ∈ t.ns, PySem.W.kitOne K (.ref (He.ga K p)) (.type "ValueError") = some true
  n : ∀ p ∈ t.ns, PySem.W.kitOne K (.type "NoneType") (.ref (He.ga K p)) = some false
  k : ∀ p ∈ t.ns, ∀ q ∈ t.ns, PySem.W.kitOne K (.ref (He.ga K p)) (.ref (He.ga K q)) = some (decide (q = p) || decide (q = t.base))
  s : ∀ p ∈ t.ns, (t.fs.map (·.1)).contains p = false → PySem.W.excIn K (He.ga K p) He.veBase "ValueError.__new__" = true
  f : ∀ f ∈ t.fs, XiOk K (He.ga K f.1) f.2.1 f.2.2
  b1 : PySem.W.specialIn K (.ref (He.ga K t.base)) "__getattribute__" = some (some (.builtin "type.__getattribute__"))
  b2 : PySem.W.readsIn K (He.ga K t.base) (.type "type") = true
  b3 : PySem.W.findCls K (.ref (He.ga K t.base)) (.type "type") "__init__" = some (.val (.builtin "ValueError.__init__"))
theorem XTab.get {t : XTab} {K : PySem.W.Frag} (h : t.ok K = true) : XTabOk t K := by
  obtain ⟨h1, h⟩ := bAnd h
  obtain ⟨h2, h⟩ := bAnd h
  obtain ⟨h3, h⟩ := bAnd h
  obtain ⟨h4, h5⟩ := bAnd h
  have a1 := List.all_eq_true.mp h1
  have a2 := List.all_eq_true.mp h2
  have c : ∀ p ∈ t.ns, XcOk K (He.ga K p) := fun p hp => xcB_ok (bAnd (a1 p hp)).1
  refine ⟨c, fun p hp q hq => ?_, fun p hp => ?_, fun p hp => ?_, fun p hp q hq => ?_, fun p hp ne => ?_, fun f hf => ?_, of_decide_eq_true h3, h4, ?_⟩
  · exact of_decide_eq_true (List.all_eq_true.mp (bAnd (bAnd (a1 p hp)).2).1 q hq)
  · exact of_decide_eq_true (bAnd (bAnd (bAnd (a1 p hp)).2).2).1
  · exact of_decide_eq_true (bAnd (bAnd (bAnd (bAnd (bAnd (a1 p hp)).2).2).2).1).1
  · exact of_decide_eq_true (List.all_eq_true.mp (bAnd (bAnd (bAnd (bAnd (bAnd (a1 p hp)).2).2).2).1).2 q hq)
  · have z := (bAnd (bAnd (bAnd (bAnd (a1 p hp)).2).2).2).2
    rw [ne, Bool.false_or] at z
    exact z
  · obtain ⟨z1, z2⟩ := bAnd (a2 f hf)
    exact xiB_ok (c _ (by simpa using z2)) z1
  · split at h5
    · rename_i v e
      rw [e, of_decide_eq_true h5]
    · cases h5
end DL
set_option Elab.async false
set_option linter.all false
set_option maxRecDepth 100000
set_option maxHeartbeats 2000000
set_option autoImplicit false
namespace DL
open PySem PySem.Spec L2
open PyProof.Rows hiding St
/-- a dict of the module: its keys in order; what it has under some keys -/
structure DTab where
  nm : Str
  keys : List Str
  at' : List (Str × Option Int)
def relI (v : Int) : Option (Option Value) → Bool
  | some (some (.int j _)) => decide (j = v)
  | _ => false
def isNo : Option (Option Value) → Bool
  | some none => true
  | _ => false
def atB (K : PySem.W.Frag) (a : Addr) (q : Str × Option Int) : Bool := match q.2 with
  | some v => relI v (PySem.W.nsIn K a q.1)
  | none => isNo (PySem.W.nsIn K a q.1)
abbrev AlN : Type := AlM × Bool × List (Option (List (Option (Str × Int))))
def atsB (ds : List DTab) (K : PySem.W.Frag) : Bool := ds.all fun d => d.at'.all fun q => atB K (He.ga K d.nm) q
def obsN (fa : List He.Fa) (fn : List He.DefD) (ts : Tabs) (ds : List DTab) (xs : List XTab) (K : PySem.W.Frag) : AlN := (obsM fa fn ts K, (atsB ds K && xs.all fun t => t.ok K), ds.map fun d => He.dicW K (He.ga K d.nm))
def valN (fn : List He.DefD) (ds : List DTab) (w : World) : AlN := ((He.valD fn, true), true, ds.map fun d => some (He.keysIn w.params d.keys))
def SaysN (fa : List He.Fa) (fn : List He.DefD) (ts : Tabs) (ds : List DTab) (xs : List XTab) (w : World) (K : PySem.W.Frag) : Prop := obsN fa fn ts ds xs K = valN fn ds w
def obsNG (n : Nat) (fa : List He.Fa) (fn : List He.DefD) (ts : Tabs) (ds : List DTab) (xs : List XTab) (g : Addr → Option Obj) : AlN := obsN fa fn ts ds xs (He.frG g (cStatics :: He.asD g n))
def hookN (n : Nat) (fa : List He.Fa) (fn : List He.DefD) (ts : Tabs) (ds : List DTab) (xs : List XTab) : PySem.W.Hook where
  α := AlN
  obs := fun s => obsNG n fa fn ts ds xs s.heap.get?
  val := fun w => valN fn ds w
  says := fun w h => ∃ K : PySem.W.Frag, K.In h ∧ SaysN fa fn ts ds xs w K
  of := fun _ _ e => ⟨_, He.frG_in, e⟩
  keeps := fun _ _ _ ⟨K, hK, c⟩ k => ⟨K, PySem.W.Frag.In.keeps hK k, c⟩
theorem obsNG_eq {n : Nat} {fa : List He.Fa} {fn : List He.DefD} {ts : Tabs} {ds : List DTab} {xs : List XTab} {g : Addr → Option Obj} {s : Shared} (h : ∀ a, g a = s.heap.get? a) : obsNG n fa fn ts ds xs g = (hookN n fa fn ts ds xs).obs s := by
  have e : g = s.heap.get? := funext h
  rw [e] <;> rfl
section
variable {fa : List He.Fa} {fn : List He.DefD} {ts : Tabs} {ds : List DTab} {xs : List XTab} {w : World} {K : PySem.W.Frag}
theorem SaysN.xt (c : SaysN fa fn ts ds xs w K) (i : Nat) {t : XTab} (h : xs[i]? = some t := by rfl) : XTabOk t K := by
  have c1 : (atsB ds K && xs.all fun t => t.ok K) = true := congrArg (fun z : AlN => z.2.1) c
  exact XTab.get (List.all_eq_true.mp (bAnd c1).2 t (List.mem_of_getElem? h))
theorem SaysN.m (c : SaysN fa fn ts ds xs w K) : SaysM fa fn ts K := congrArg (fun z : AlN => z.1) c
end
end DL
set_option Elab.async false
set_option linter.all false
set_option maxRecDepth 100000
set_option maxHeartbeats 2000000
set_option autoImplicit false
namespace DL
open PySem PySem.Spec L2
open PyProof.Rows hiding St
mutual
/-- a row by its place: the place, the row, the rows within -/
def Rw.pl : Rw → Nat → R
  | .set a e, n => .tup [.int (n : Int), (Rw.set a e).r, .lst []]
  | .tell a, n => .tup [.int (n : Int), (Rw.tell a).r, .lst []]
  | .iff a p q, n => .tup [.int (n : Int), (Rw.iff a p q).r, .lst [.lst (Rw.pll p (n + 1)), .lst (Rw.pll q (n + 1 + Rw.ctl p))]]
  | .rnd k p, n => .tup [.int (n : Int), (Rw.rnd k p).r, .lst [.lst (Rw.pll p (n + 1))]]
def Rw.pll : List Rw → Nat → List R
  | [], _ => []
  | x :: xs, n => x.pl n :: Rw.pll xs (n + x.ct)
end
def Lay (k : Nat) (r : R) : Prop := ∃ d, r.py = some d ∧ PyData.canLay0 d = true ∧ PyData.depth d ≤ k
def Lays (k : Nat) (rs : List R) : Prop := ∃ ds, R.pys rs = some ds ∧ ds.length = rs.length ∧ PyData.canLayAll0 ds = true ∧ PyData.depthAll ds ≤ k
theorem Lays.nil {k : Nat} : Lays k [] := ⟨[], rfl, rfl, rfl, Nat.zero_le _⟩
theorem Lays.cons {k : Nat} {r : R} {rs : List R} (h : Lay k r) (t : Lays k rs) : Lays k (r :: rs) := by
  obtain ⟨d, h1, h2, h3⟩ := h
  obtain ⟨ds, t1, t2, t3, t4⟩ := t
  exact ⟨d :: ds, by rw [R.pys, h1, t1], by rw [List.length_cons, List.length_cons, t2], (by show (PyData.canLay0 d && PyData.canLayAll0 ds) = true; rw [h2, t3]; rfl), Nat.max_le.mpr ⟨h3, t4⟩⟩
theorem Lay.tup {k : Nat} {rs : List R} (h : Lays k rs) : Lay (k + 1) (.tup rs) := by
  obtain ⟨ds, h1, h2, h3, h4⟩ := h
  exact ⟨.tuple ds, by rw [R.py, h1]; rfl, h3, Nat.succ_le_succ h4⟩
theorem Lay.int {k : Nat} (i : Int) : Lay k (.int i) := ⟨.int i, rfl, rfl, Nat.zero_le _⟩
theorem Lay.str {k : Nat} {s : Str} (h : PyData.strOk s = true) : Lay k (.str s) := ⟨.str s, rfl, h, Nat.zero_le _⟩
theorem Lay.mono {k j : Nat} {r : R} (h : Lay k r) (e : k ≤ j) : Lay j r := let ⟨d, h1, h2, h3⟩ := h; ⟨d, h1, h2, Nat.le_trans h3 e⟩
theorem Lays.mono {k j : Nat} {r : List R} (h : Lays k r) (e : k ≤ j) : Lays j r := let ⟨d, h1, h0, h2, h3⟩ := h; ⟨d, h1, h0, h2, Nat.le_trans h3 e⟩
theorem Lays.shaped {k : Nat} {rs : List R} (h : Lays k rs) (hk : k ≤ 63) : ∃ ds, R.pys rs = some ds ∧ SeqAt.shaped (.list ds) = true ∧ PyData.eqv (.list ds) (.list []) = rs.isEmpty := by
  obtain ⟨ds, h1, h2, h3, h4⟩ := h
  refine ⟨ds, h1, ?_, ?_⟩
  · unfold SeqAt.shaped
    show (PyData.canLayAll0 ds && decide (PyData.depthAll ds + 1 ≤ 64)) = true
    rw [h3, Bool.true_and]
    exact decide_eq_true (by omega)
  · rw [eqvNil]
    cases ds <;> cases rs <;> first | rfl | (simp at h2)
end DL
set_option Elab.async false
set_option linter.all false
set_option maxRecDepth 100000
set_option maxHeartbeats 2000000
set_option autoImplicit true
namespace DL
open PySem PySem.Spec L2
open PyProof.Rows hiding St
def top (i : Nat) : Stmt := PySem.Challenge.pw_bitneed_k02_refusals_by_hand.main.body.getD i (.Pass ⟨0, 0, 0, 0⟩)
abbrev xt : XTab := ⟨"BitError", ["BitError", "BadText", "Unsound", "BadProgram", "BadInput", "BadPlace", "BadFacts", "BadWidths", "BadPaper", "BadAsked", "TooMany", "BadLine"], [("BadText", "line", "word"), ("Unsound", "place", "what")]⟩
def xts : List XTab := [xt]
abbrev s_BadText_init : Stmt := inClass (top 2) 0
theorem sc_BadText_init : FnScope ["self", "line", "word"] ["self", "line", "word"] (defScope s_BadText_init) := ⟨rfl, rfl, rfl, by decide +kernel, rfl, by decide +kernel, by decide +kernel⟩
abbrev s_Unsound_init : Stmt := inClass (top 3) 0
theorem sc_Unsound_init : FnScope ["self", "place", "what"] ["self", "place", "what"] (defScope s_Unsound_init) := ⟨rfl, rfl, rfl, by decide +kernel, rfl, by decide +kernel, by decide +kernel⟩
abbrev s__law_begin : Stmt := top 14
theorem sc__law_begin : FnScope ["script"] ["script"] (defScope s__law_begin) := ⟨rfl, rfl, rfl, by decide +kernel, rfl, by decide +kernel, by decide +kernel⟩
abbrev s__law_mixed : Stmt := top 15
theorem sc__law_mixed : FnScope ["cell", "k", "number"] ["cell", "k"] (defScope s__law_mixed) := ⟨rfl, rfl, rfl, by decide +kernel, rfl, by decide +kernel, by decide +kernel⟩
abbrev s__law_next : Stmt := top 16
theorem sc__law_next : FnScope ["draw", "many", "found", "cells", "cell"] ["draw", "many"] (defScope s__law_next) := ⟨rfl, rfl, rfl, by decide +kernel, rfl, by decide +kernel, by decide +kernel⟩
abbrev s__law_words : Stmt := top 17
theorem sc__law_words : FnScope ["error", "found", "word", "is_so"] ["error"] (defScope s__law_words) := ⟨rfl, rfl, rfl, by decide +kernel, rfl, by decide +kernel, by decide +kernel⟩
abbrev s__law_made : Stmt := top 18
theorem sc__law_made : FnScope ["number", "place", "what", "some"] ["number", "place", "what"] (defScope s__law_made) := ⟨rfl, rfl, rfl, by decide +kernel, rfl, by decide +kernel, by decide +kernel⟩
abbrev s__law_is_caught : Stmt := top 19
theorem sc__law_is_caught : FnScope ["number", "place", "found", "e"] ["number", "place"] (defScope s__law_is_caught) := ⟨rfl, rfl, rfl, by decide +kernel, rfl, by decide +kernel, by decide +kernel⟩
abbrev s_law : Stmt := top 20
theorem sc_law : FnScope ["script", "draw", "due", "k", "number", "place", "what", "some", "one", "word"] ["script"] (defScope s_law) := ⟨rfl, rfl, rfl, by decide +kernel, rfl, by decide +kernel, by decide +kernel⟩
structure Txt (w : World) (K : PySem.W.Frag) (mg : Str → Option Value) where
  d__law_begin : FuncData
  F__law_begin : FunD K "_law_begin" "_law_begin" (defArgs s__law_begin) (defBody s__law_begin) (defScope s__law_begin) [] [] (He.ga K "_law_begin") d__law_begin
  g__law_begin : mg "_law_begin" = some (.ref (He.ga K "_law_begin"))
  d__law_mixed : FuncData
  F__law_mixed : FunD K "_law_mixed" "_law_mixed" (defArgs s__law_mixed) (defBody s__law_mixed) (defScope s__law_mixed) [] [] (He.ga K "_law_mixed") d__law_mixed
  g__law_mixed : mg "_law_mixed" = some (.ref (He.ga K "_law_mixed"))
  d__law_next : FuncData
  F__law_next : FunD K "_law_next" "_law_next" (defArgs s__law_next) (defBody s__law_next) (defScope s__law_next) [] [] (He.ga K "_law_next") d__law_next
  g__law_next : mg "_law_next" = some (.ref (He.ga K "_law_next"))
  d__law_words : FuncData
  F__law_words : FunD K "_law_words" "_law_words" (defArgs s__law_words) (defBody s__law_words) (defScope s__law_words) [] [] (He.ga K "_law_words") d__law_words
  g__law_words : mg "_law_words" = some (.ref (He.ga K "_law_words"))
  d__law_made : FuncData
  F__law_made : FunD K "_law_made" "_law_made" (defArgs s__law_made) (defBody s__law_made) (defScope s__law_made) [] [] (He.ga K "_law_made") d__law_made
  g__law_made : mg "_law_made" = some (.ref (He.ga K "_law_made"))
  d__law_is_caught : FuncData
  F__law_is_caught : FunD K "_law_is_caught" "_law_is_caught" (defArgs s__law_is_caught) (defBody s__law_is_caught) (defScope s__law_is_caught) [] [] (He.ga K "_law_is_caught") d__law_is_caught
  g__law_is_caught : mg "_law_is_caught" = some (.ref (He.ga K "_law_is_caught"))
  d_law : FuncData
  F_law : FunD K "law" "law" (defArgs s_law) (defBody s_law) (defScope s_law) [] [] (He.ga K "law") d_law
  g_law : mg "law" = some (.ref (He.ga K "law"))
  d_BadText_init : FuncData
  F_BadText_init : FunD K "__init__" "BadText.__init__" (defArgs s_BadText_init) (defBody s_BadText_init) (defScope s_BadText_init) [] [] (He.ma K (He.ga K "BadText") "__init__") d_BadText_init
  d_Unsound_init : FuncData
  F_Unsound_init : FunD K "__init__" "Unsound.__init__" (defArgs s_Unsound_init) (defBody s_Unsound_init) (defScope s_Unsound_init) [] [] (He.ma K (He.ga K "Unsound") "__init__") d_Unsound_init
  g_BitError : mg "BitError" = some (.ref (He.ga K "BitError"))
  g_BadText : mg "BadText" = some (.ref (He.ga K "BadText"))
  g_Unsound : mg "Unsound" = some (.ref (He.ga K "Unsound"))
  g_BadProgram : mg "BadProgram" = some (.ref (He.ga K "BadProgram"))
  g_BadInput : mg "BadInput" = some (.ref (He.ga K "BadInput"))
  g_BadPlace : mg "BadPlace" = some (.ref (He.ga K "BadPlace"))
  g_BadFacts : mg "BadFacts" = some (.ref (He.ga K "BadFacts"))
  g_BadWidths : mg "BadWidths" = some (.ref (He.ga K "BadWidths"))
  g_BadPaper : mg "BadPaper" = some (.ref (He.ga K "BadPaper"))
  g_BadAsked : mg "BadAsked" = some (.ref (He.ga K "BadAsked"))
  g_TooMany : mg "TooMany" = some (.ref (He.ga K "TooMany"))
  g_BadLine : mg "BadLine" = some (.ref (He.ga K "BadLine"))
  x_ : XTabOk xt K
  n_ValueError : mg "ValueError" = none
  n_isinstance : mg "isinstance" = none
  n_len : mg "len" = none
  n_min : mg "min" = none
  n_range : mg "range" = none
  n_repr : mg "repr" = none
  n_str : mg "str" = none
  n_zip : mg "zip" = none
def ts : Tabs := []
def fn : List He.DefD := [⟨("_law_begin", none), "_law_begin", "_law_begin", defArgs s__law_begin, defBody s__law_begin, defScope s__law_begin, [], []⟩,
  ⟨("_law_mixed", none), "_law_mixed", "_law_mixed", defArgs s__law_mixed, defBody s__law_mixed, defScope s__law_mixed, [], []⟩,
  ⟨("_law_next", none), "_law_next", "_law_next", defArgs s__law_next, defBody s__law_next, defScope s__law_next, [], []⟩,
  ⟨("_law_words", none), "_law_words", "_law_words", defArgs s__law_words, defBody s__law_words, defScope s__law_words, [], []⟩,
  ⟨("_law_made", none), "_law_made", "_law_made", defArgs s__law_made, defBody s__law_made, defScope s__law_made, [], []⟩,
  ⟨("_law_is_caught", none), "_law_is_caught", "_law_is_caught", defArgs s__law_is_caught, defBody s__law_is_caught, defScope s__law_is_caught, [], []⟩,
  ⟨("law", none), "law", "law", defArgs s_law, defBody s_law, defScope s_law, [], []⟩,
  ⟨("BadText", some "__init__"), "__init__", "BadText.__init__", defArgs s_BadText_init, defBody s_BadText_init, defScope s_BadText_init, [], []⟩,
  ⟨("Unsound", some "__init__"), "__init__", "Unsound.__init__", defArgs s_Unsound_init, defBody s_Unsound_init, defScope s_Unsound_init, [], []⟩]
def dtab : List DTab := []
def fa : List He.Fa := [.glo "_law_begin", .glo "_law_mixed", .glo "_law_next", .glo "_law_words", .glo "_law_made", .glo "_law_is_caught", .glo "law", .free "ValueError", .free "isinstance", .free "len", .free "min", .free "range", .free "repr", .free "str", .free "zip", .glo "BitError", .glo "BadText", .glo "Unsound", .glo "BadProgram", .glo "BadInput", .glo "BadPlace", .glo "BadFacts", .glo "BadWidths", .glo "BadPaper", .glo "BadAsked", .glo "TooMany", .glo "BadLine"]
theorem txt_of {w : World} {K : PySem.W.Frag} {h : Heap} {mg : Str → Option Value} (X : K.In h) (G : h.Ns mainGlobals mg) (cN : SaysN fa fn ts dtab xts w K) : Nonempty (Txt w K mg) := by
  have c0 := cN.m
  have c := c0.d
  obtain ⟨d0, F0⟩ := c.def_ 0 rfl
  obtain ⟨d1, F1⟩ := c.def_ 1 rfl
  obtain ⟨d2, F2⟩ := c.def_ 2 rfl
  obtain ⟨d3, F3⟩ := c.def_ 3 rfl
  obtain ⟨d4, F4⟩ := c.def_ 4 rfl
  obtain ⟨d5, F5⟩ := c.def_ 5 rfl
  obtain ⟨d6, F6⟩ := c.def_ 6 rfl
  obtain ⟨d7, F7⟩ := c.def_ 7 rfl
  obtain ⟨d8, F8⟩ := c.def_ 8 rfl
  exact ⟨{
    d_BadText_init := d7
    F_BadText_init := F7
    d_Unsound_init := d8
    F_Unsound_init := F8
    g_BitError := He.glo_ok X G (c.fact 15 (f := .glo "BitError") rfl)
    g_BadText := He.glo_ok X G (c.fact 16 (f := .glo "BadText") rfl)
    g_Unsound := He.glo_ok X G (c.fact 17 (f := .glo "Unsound") rfl)
    g_BadProgram := He.glo_ok X G (c.fact 18 (f := .glo "BadProgram") rfl)
    g_BadInput := He.glo_ok X G (c.fact 19 (f := .glo "BadInput") rfl)
    g_BadPlace := He.glo_ok X G (c.fact 20 (f := .glo "BadPlace") rfl)
    g_BadFacts := He.glo_ok X G (c.fact 21 (f := .glo "BadFacts") rfl)
    g_BadWidths := He.glo_ok X G (c.fact 22 (f := .glo "BadWidths") rfl)
    g_BadPaper := He.glo_ok X G (c.fact 23 (f := .glo "BadPaper") rfl)
    g_BadAsked := He.glo_ok X G (c.fact 24 (f := .glo "BadAsked") rfl)
    g_TooMany := He.glo_ok X G (c.fact 25 (f := .glo "TooMany") rfl)
    g_BadLine := He.glo_ok X G (c.fact 26 (f := .glo "BadLine") rfl)
    x_ := cN.xt 0 rfl
    d__law_begin := d0
    F__law_begin := F0
    g__law_begin := He.glo_ok X G (c.fact 0 (f := .glo "_law_begin") rfl)
    d__law_mixed := d1
    F__law_mixed := F1
    g__law_mixed := He.glo_ok X G (c.fact 1 (f := .glo "_law_mixed") rfl)
    d__law_next := d2
    F__law_next := F2
    g__law_next := He.glo_ok X G (c.fact 2 (f := .glo "_law_next") rfl)
    d__law_words := d3
    F__law_words := F3
    g__law_words := He.glo_ok X G (c.fact 3 (f := .glo "_law_words") rfl)
    d__law_made := d4
    F__law_made := F4
    g__law_made := He.glo_ok X G (c.fact 4 (f := .glo "_law_made") rfl)
    d__law_is_caught := d5
    F__law_is_caught := F5
    g__law_is_caught := He.glo_ok X G (c.fact 5 (f := .glo "_law_is_caught") rfl)
    d_law := d6
    F_law := F6
    g_law := He.glo_ok X G (c.fact 6 (f := .glo "law") rfl)
    n_ValueError := He.free_ok X G (c.fact 7 (f := .free "ValueError") rfl)
    n_isinstance := He.free_ok X G (c.fact 8 (f := .free "isinstance") rfl)
    n_len := He.free_ok X G (c.fact 9 (f := .free "len") rfl)
    n_min := He.free_ok X G (c.fact 10 (f := .free "min") rfl)
    n_range := He.free_ok X G (c.fact 11 (f := .free "range") rfl)
    n_repr := He.free_ok X G (c.fact 12 (f := .free "repr") rfl)
    n_str := He.free_ok X G (c.fact 13 (f := .free "str") rfl)
    n_zip := He.free_ok X G (c.fact 14 (f := .free "zip") rfl) }⟩
section
variable {P : Program} {w : World} {K : PySem.W.Frag} {mg : Str → Option Value} {base : Heap}
theorem b__law_begin (T : Txt w K mg) : Binds K T.d__law_begin ["script"] [] := T.F__law_begin.bindsN fun _ _ _ _ _ _ us hl => match us, hl with | [_], _ => rfl
theorem b__law_mixed (T : Txt w K mg) : Binds K T.d__law_mixed ["cell", "k"] [] := T.F__law_mixed.bindsN fun _ _ _ _ _ _ us hl => match us, hl with | [_, _], _ => rfl
theorem b__law_next (T : Txt w K mg) : Binds K T.d__law_next ["draw", "many"] [] := T.F__law_next.bindsN fun _ _ _ _ _ _ us hl => match us, hl with | [_, _], _ => rfl
theorem b__law_words (T : Txt w K mg) : Binds K T.d__law_words ["error"] [] := T.F__law_words.bindsN fun _ _ _ _ _ _ us hl => match us, hl with | [_], _ => rfl
theorem b__law_made (T : Txt w K mg) : Binds K T.d__law_made ["number", "place", "what"] [] := T.F__law_made.bindsN fun _ _ _ _ _ _ us hl => match us, hl with | [_, _, _], _ => rfl
theorem b__law_is_caught (T : Txt w K mg) : Binds K T.d__law_is_caught ["number", "place"] [] := T.F__law_is_caught.bindsN fun _ _ _ _ _ _ us hl => match us, hl with | [_, _], _ => rfl
theorem b_BadText_init (T : Txt w K mg) : Binds K T.d_BadText_init ["self", "line", "word"] [] := T.F_BadText_init.bindsN fun _ _ _ _ _ _ us hl => match us, hl with | [_, _, _], _ => rfl
theorem b_Unsound_init (T : Txt w K mg) : Binds K T.d_Unsound_init ["self", "place", "what"] [] := T.F_Unsound_init.bindsN fun _ _ _ _ _ _ us hl => match us, hl with | [_, _, _], _ => rfl
theorem xc_BadText (T : Txt w K mg) : XcOk K (He.ga K "BadText") := T.x_.c "BadText" (by decide)
theorem xi_BadText (T : Txt w K mg) : XiOk K (He.ga K "BadText") "line" "word" := T.x_.f ("BadText", "line", "word") (by decide)
theorem xc_Unsound (T : Txt w K mg) : XcOk K (He.ga K "Unsound") := T.x_.c "Unsound" (by decide)
theorem xm_Unsound (T : Txt w K mg) : PySem.W.exmOne K (.ref (He.ga K "Unsound")) (.ref (He.ga K "BitError")) = some true := (T.x_.m "Unsound" (by decide) "BitError" (by decide)).trans (by decide +kernel)
theorem xi_Unsound (T : Txt w K mg) : XiOk K (He.ga K "Unsound") "place" "what" := T.x_.f ("Unsound", "place", "what") (by decide)
theorem xc_BadProgram (T : Txt w K mg) : XcOk K (He.ga K "BadProgram") := T.x_.c "BadProgram" (by decide)
theorem xs_BadProgram (T : Txt w K mg) : PySem.W.excIn K (He.ga K "BadProgram") He.veBase "ValueError.__new__" = true := T.x_.s "BadProgram" (by decide) (by decide)
theorem xc_BadInput (T : Txt w K mg) : XcOk K (He.ga K "BadInput") := T.x_.c "BadInput" (by decide)
theorem xs_BadInput (T : Txt w K mg) : PySem.W.excIn K (He.ga K "BadInput") He.veBase "ValueError.__new__" = true := T.x_.s "BadInput" (by decide) (by decide)
theorem xc_BadPlace (T : Txt w K mg) : XcOk K (He.ga K "BadPlace") := T.x_.c "BadPlace" (by decide)
theorem xs_BadPlace (T : Txt w K mg) : PySem.W.excIn K (He.ga K "BadPlace") He.veBase "ValueError.__new__" = true := T.x_.s "BadPlace" (by decide) (by decide)
theorem xc_BadFacts (T : Txt w K mg) : XcOk K (He.ga K "BadFacts") := T.x_.c "BadFacts" (by decide)
theorem xs_BadFacts (T : Txt w K mg) : PySem.W.excIn K (He.ga K "BadFacts") He.veBase "ValueError.__new__" = true := T.x_.s "BadFacts" (by decide) (by decide)
theorem xc_BadWidths (T : Txt w K mg) : XcOk K (He.ga K "BadWidths") := T.x_.c "BadWidths" (by decide)
theorem xs_BadWidths (T : Txt w K mg) : PySem.W.excIn K (He.ga K "BadWidths") He.veBase "ValueError.__new__" = true := T.x_.s "BadWidths" (by decide) (by decide)
theorem xc_BadPaper (T : Txt w K mg) : XcOk K (He.ga K "BadPaper") := T.x_.c "BadPaper" (by decide)
theorem xs_BadPaper (T : Txt w K mg) : PySem.W.excIn K (He.ga K "BadPaper") He.veBase "ValueError.__new__" = true := T.x_.s "BadPaper" (by decide) (by decide)
theorem xc_BadAsked (T : Txt w K mg) : XcOk K (He.ga K "BadAsked") := T.x_.c "BadAsked" (by decide)
theorem xs_BadAsked (T : Txt w K mg) : PySem.W.excIn K (He.ga K "BadAsked") He.veBase "ValueError.__new__" = true := T.x_.s "BadAsked" (by decide) (by decide)
theorem xc_TooMany (T : Txt w K mg) : XcOk K (He.ga K "TooMany") := T.x_.c "TooMany" (by decide)
theorem xs_TooMany (T : Txt w K mg) : PySem.W.excIn K (He.ga K "TooMany") He.veBase "ValueError.__new__" = true := T.x_.s "TooMany" (by decide) (by decide)
theorem xc_BadLine (T : Txt w K mg) : XcOk K (He.ga K "BadLine") := T.x_.c "BadLine" (by decide)
theorem xs_BadLine (T : Txt w K mg) : PySem.W.excIn K (He.ga K "BadLine") He.veBase "ValueError.__new__" = true := T.x_.s "BadLine" (by decide) (by decide)
end
abbrev R0 : PySem.W.OpenRow := PySem.W.OpenLaw.row PySem.Challenge.rw_bitneed_k02_refusals_by_hand
abbrev hk : PySem.W.Hook := hookN 4 fa fn ts dtab xts
def ob (s : PySem.W.SharedT) : AlN := obsNG 4 fa fn ts dtab xts (HandSHeadRun.getT s)
theorem ob_eq (s : PySem.W.SharedT) : ob s = hk.obs s.abs := obsNG_eq (HandSHeadRun.getT_eq s)
def looseN : List Str := [("_law_begin" : Str), ("_law_mixed" : Str), ("_law_next" : Str), ("_law_words" : Str), ("_law_made" : Str), ("_law_is_caught" : Str), ("BitError" : Str), ("BadText" : Str), ("Unsound" : Str), ("BadProgram" : Str), ("BadInput" : Str), ("BadPlace" : Str), ("BadFacts" : Str), ("BadWidths" : Str), ("BadPaper" : Str), ("BadAsked" : Str), ("TooMany" : Str), ("BadLine" : Str)]
def frK (s : PySem.W.SharedT) : PySem.W.Frag := He.frG (HandSHeadRun.getT s) (cStatics :: He.asD (HandSHeadRun.getT s) 4)
theorem obC (w : World) {o : Option PySem.W.SharedT} (x1 : o.map (fun s => fa.all fun f => f.ok (frK s)) = some true)
    (x3 : o.map (fun s => (fn.all fun d => d.ok (frK s), tabsOk ts (frK s), (atsB dtab (frK s) && xts.all fun t => t.ok (frK s)), dtab.map fun d => He.dicW (frK s) (He.ga (frK s) d.nm))) = some (true, true, true, dtab.map fun d => some (He.keysIn (PySem.World.params w) d.keys)))
    (x4 : o.map (fun s => fn.map fun d => He.fnW (frK s) d.at_) = some (fn.map He.DefD.val)) : o.map ob = some (hk.val w) := by
  cases o with
  | none => cases x1
  | some s =>
    have e := Option.some.inj x1
    have y3 := Option.some.inj x3
    have y4 := Option.some.inj x4
    dsimp only at e y3 y4
    obtain ⟨z1, z2⟩ := Prod.mk.inj y3
    obtain ⟨z3, z4⟩ := Prod.mk.inj z2
    obtain ⟨z5, z6⟩ := Prod.mk.inj z4
    show some (((((fa.all fun f => f.ok (frK s)) && fn.all fun d => d.ok (frK s), fn.map fun d => He.fnW (frK s) d.at_), tabsOk ts (frK s)), (atsB dtab (frK s) && xts.all fun t => t.ok (frK s)), dtab.map fun d => He.dicW (frK s) (He.ga (frK s) d.nm)) : AlN) = some ((((true, fn.map He.DefD.val), true), true, dtab.map fun d => some (He.keysIn (PySem.World.params w) d.keys)) : AlN)
    rw [e, z1, z3, z5, z6, y4]
    rfl
theorem map3 {α β γ δ : Type} {o : Option α} {f : α → β} {g : α → γ} {h : α → δ} {a : β} {b : γ} {c : δ} (x : o.map f = some a) (y : o.map g = some b) (z : o.map h = some c) : o.map (fun s => (f s, g s, h s)) = some (a, b, c) := by
  cases o with
  | none => cases x
  | some s => cases x; cases y; cases z; rfl
theorem and3 {p : Program} {h0 : Heap} {o : Option PySem.W.SharedT} (x : o.map (fun s => PySem.W.staticsOk (importedModules p.main.body) h0 s.abs.heap) = some true) (y : o.map (fun s => PySem.W.namesBound p s.abs.heap) = some true) (z : o.map (fun s => PySem.W.gensDone s.abs && PySem.W.laidKept h0 s.abs.heap) = some true) :
    o.map (fun s => HandSHeadRun.looksF p h0 s.abs) = some true := by
  cases o with
  | none => cases x
  | some s =>
    have x1 := Option.some.inj x
    have y1 := Option.some.inj y
    have z1 := Option.some.inj z
    show some (PySem.W.staticsOk (importedModules p.main.body) h0 s.abs.heap && PySem.W.namesBound p s.abs.heap && PySem.W.gensDone s.abs && PySem.W.laidKept h0 s.abs.heap) = some true
    dsimp only at x1 y1 z1
    rw [Bool.and_assoc, x1, y1, z1]
    rfl
set_option maxHeartbeats 0 in
theorem runA1 (w : World) (os : OsState) : Option.map (fun s => PySem.W.staticsOk (importedModules R0.prog.main.body) (W.boot_heap (PySem.World.params w)) s.abs.heap) (HandSHeadRun.endF (HandSHeadRun.stepQ (HandSHeadRun.denQ HandSHeadRun.tabQ) R0.prog w) 12000 R0.prog w os) = some true := by kernel_rfl
set_option maxHeartbeats 0 in
theorem runA2 (w : World) (os : OsState) : Option.map (fun s => PySem.W.namesBound R0.prog s.abs.heap) (HandSHeadRun.endF (HandSHeadRun.stepQ (HandSHeadRun.denQ HandSHeadRun.tabQ) R0.prog w) 12000 R0.prog w os) = some true := by kernel_rfl
set_option maxHeartbeats 0 in
theorem runA3 (w : World) (os : OsState) : Option.map (fun s => PySem.W.gensDone s.abs && PySem.W.laidKept (W.boot_heap (PySem.World.params w)) s.abs.heap) (HandSHeadRun.endF (HandSHeadRun.stepQ (HandSHeadRun.denQ HandSHeadRun.tabQ) R0.prog w) 12000 R0.prog w os) = some true := by kernel_rfl
set_option maxHeartbeats 0 in
theorem runD0 (w : World) (os : OsState) : Option.map (fun s => (fa).all fun f => f.ok (frK s)) (HandSHeadRun.endF (HandSHeadRun.stepQ (HandSHeadRun.denQ HandSHeadRun.tabQ) R0.prog w) 12000 R0.prog w os) = some true := by kernel_rfl
set_option maxHeartbeats 0 in
theorem runC3 (w : World) (os : OsState) : Option.map (fun s => (fn.all fun d => d.ok (frK s), tabsOk ts (frK s), (atsB dtab (frK s) && xts.all fun t => t.ok (frK s)), dtab.map fun d => He.dicW (frK s) (He.ga (frK s) d.nm))) (HandSHeadRun.endF (HandSHeadRun.stepQ (HandSHeadRun.denQ HandSHeadRun.tabQ) R0.prog w) 12000 R0.prog w os) = some (true, true, true, dtab.map fun d => some (He.keysIn (PySem.World.params w) d.keys)) := by kernel_rfl
set_option maxHeartbeats 0 in
theorem runC4 (w : World) (os : OsState) : Option.map (fun s => fn.map fun d => He.fnW (frK s) d.at_) (HandSHeadRun.endF (HandSHeadRun.stepQ (HandSHeadRun.denQ HandSHeadRun.tabQ) R0.prog w) 12000 R0.prog w os) = some (fn.map He.DefD.val) := by kernel_rfl
set_option maxHeartbeats 0 in
theorem runB (w : World) (os : OsState) : Option.map (fun s => HandSHeadRun.seenQ (PySem.W.view R0.prog [20]) looseN (importedModules R0.prog.main.body) (fun s => W.xlAt (PySem.W.view R0.prog [20]) [] s && W.recOk R0.records s) s.abs) (HandSHeadRun.endF (HandSHeadRun.stepQ (HandSHeadRun.denQ HandSHeadRun.tabQ) R0.prog w) 12000 R0.prog w os) = some (W.openGood (PySem.W.view R0.prog [20]) looseN) := by kernel_rfl
theorem runE (w : World) : HandSHeadRun.RunEq R0 (PySem.W.view R0.prog [20]) hk ob 12000 looseN w := fun os => map3 (and3 (runA1 w os) (runA2 w os) (runA3 w os)) (runB w os) (obC w (runD0 w os) (runC3 w os) (runC4 w os))
end DL
set_option Elab.async false
set_option linter.all false
set_option maxRecDepth 100000
set_option maxHeartbeats 4000000
set_option autoImplicit false
set_option Elab.async false
set_option linter.all false
set_option maxRecDepth 100000
set_option maxHeartbeats 4000000
set_option autoImplicit false
set_option Elab.async false
set_option linter.all false
set_option maxRecDepth 100000
set_option maxHeartbeats 2000000
set_option autoImplicit false
set_option Elab.async false
set_option linter.all false
set_option maxRecDepth 100000
set_option maxHeartbeats 2000000
set_option autoImplicit false
set_option Elab.async false
set_option linter.all false
set_option maxRecDepth 100000
set_option maxHeartbeats 2000000
set_option autoImplicit false
set_option Elab.async false
set_option linter.all false
set_option maxRecDepth 100000
set_option maxHeartbeats 2000000
set_option autoImplicit false
set_option Elab.async false
set_option linter.all false
set_option maxRecDepth 100000
set_option maxHeartbeats 2000000
namespace DL
open PySem PySem.Spec L2
open PyProof.Rows hiding St
def Jp.del (J : Jp) (a : Addr) : Jp := ⟨fun b => if b = a then none else J.j b, J.f⟩
section
variable {K : PySem.W.Frag} {J : Jp} {a : Addr} {od : Obj} {ws : List (Key × V)}
theorem del_ne {b : Addr} (n : b ≠ a) : (J.del a).j b = J.j b := if_neg n
theorem del_same : (J.del a).j a = none := if_pos rfl
theorem rd_del {b : Addr} {u : HO} (h : J.j a = some (.frz od (.dK ws))) (hu : ∀ o, (HO.frz o u) ≠ .frz od (.dK ws)) (hu2 : u ≠ .frz od (.dK ws)) (q : Rd J.j b u) : Rd (J.del a).j b u := by
  have n : b ≠ a := fun z => by
    rw [z] at q
    rcases q with q | ⟨o, q⟩
    · rw [h] at q; exact hu2 (Option.some.inj q).symm
    · rw [h] at q; exact hu o (Option.some.inj q).symm
  rcases q with q | ⟨o, q⟩
  · exact .inl (by rw [del_ne n]; exact q)
  · exact .inr ⟨o, by rw [del_ne n]; exact q⟩
mutual
theorem RV.del (h : J.j a = some (.frz od (.dK ws))) : ∀ {r : R} {v : V}, RV K J r v → RV K (J.del a) r v
  | _, _, .non => .non
  | _, _, .bl b => .bl b
  | _, _, .int i => .int i
  | _, _, .str x => .str x
  | _, _, .tup q hs => .tup (q.elim (fun q => .inl (rd_del h (fun o z => by cases z) (fun z => by cases z) q)) .inr) (RVs.del h hs)
  | _, _, .lst (a := b) q hs => .lst (by rw [del_ne (fun z => by rw [z, h] at q; cases q)]; exact q) (RVs.del h hs)
  | _, _, .o a => .o a
  | _, _, .ty n => .ty n
  | _, _, .scr q => .scr (q.elim (fun q => .inl (rd_del h (fun o z => by cases z) (fun z => by cases z) q)) .inr)
  | _, _, .pt (a := b) q h0 hs => .pt (by rw [del_ne (fun z => by rw [z, h] at q; cases q)]; exact q) h0 (RVs.del h hs)
  | _, _, .ex (a := b) (d := d0) q h0 hs => .ex (by rw [del_ne (fun z => by rw [z, h] at q; cases q)]; exact q) (by
      cases d0 with
      | none => exact h0
      | some d1 => exact ⟨by rw [del_ne (fun z => by have z1 := h0.1; rw [z, h] at z1; cases z1)]; exact h0.1, h0.2⟩) (RVs.del h hs)
theorem RVs.del (h : J.j a = some (.frz od (.dK ws))) : ∀ {rs : List R} {vs : List V}, RVs K J rs vs → RVs K (J.del a) rs vs
  | _, _, .nil => .nil
  | _, _, .cons q hs => .cons (RV.del h q) (RVs.del h hs)
end
theorem KRV.del {κ : Type} (h : J.j a = some (.frz od (.dK ws))) : ∀ {ps : List (κ × R)} {qs : List (κ × V)}, KRV K J ps qs → KRV K (J.del a) ps qs
  | _, _, .nil => .nil
  | _, _, .cons ⟨e, b⟩ t => .cons ⟨e, b.del h⟩ (KRV.del h t)
theorem MOk.del {H H' : Hp} {b : Addr} {m : MO} (h : J.j a = Option.some (.frz od (.dK ws))) (e : H' b = H b) (x : MOk K J H b m) : MOk K (J.del a) H' b m := by
  cases m with
  | lst rs => obtain ⟨vs, h1, h2⟩ := x; exact ⟨vs, e.trans h1, h2.del h⟩
  | dK kvs => obtain ⟨vs, h1, h2⟩ := x; exact ⟨vs, e.trans h1, h2.del h⟩
  | ins C fs => obtain ⟨dx, vs, h1, h2⟩ := x; exact ⟨dx, vs, e.trans h1, h2.del h⟩
  | dr n => obtain ⟨ns, t, l, u, h0, vs, h1, h2⟩ := x; exact ⟨ns, t, l, u, h0, vs, e.trans h1, h2.del h⟩
  | fK => exact ⟨e.trans x.1, x.2.del h⟩
end
end DL
set_option Elab.async false
set_option linter.all false
set_option maxRecDepth 100000
set_option maxHeartbeats 2000000
set_option autoImplicit false
namespace DL
open PySem PySem.Spec L2
open PyProof.Rows hiding St
abbrev FEnv := List (Str × F2)
def lkF : FEnv → Str → F2
  | [], _ => (0, 0)
  | p :: e, a => if p.1 = a then p.2 else lkF e a
def kyF (env : FEnv) : List Str := env.map (·.1)
def ptF (env : FEnv) (a : Str) (f : F2) : FEnv := if (env.any fun p => decide (p.1 = a)) = true then env.map (fun p => if p.1 = a then (p.1, f) else p) else env ++ [(a, f)]
theorem any_ky (env : FEnv) (a : Str) : (env.any fun p => decide (p.1 = a)) = decide (a ∈ kyF env) := by
  induction env with
  | nil => rfl
  | cons p e ih =>
    rw [List.any_cons, ih]
    unfold kyF
    rw [List.map_cons]
    by_cases h : p.1 = a
    · rw [decide_eq_true h, Bool.true_or, decide_eq_true]; rw [h]; exact List.mem_cons_self
    · rw [decide_eq_false h, Bool.false_or]
      refine decide_eq_decide.mpr ⟨List.mem_cons_of_mem _, fun q => ?_⟩
      exact (List.mem_cons.mp q).resolve_left fun z => h z.symm
theorem ky_map (env : FEnv) (a : Str) (f : F2) : kyF (env.map fun p => if p.1 = a then (p.1, f) else p) = kyF env := by
  unfold kyF
  rw [List.map_map]
  refine List.map_congr_left fun p _ => ?_
  show (if p.1 = a then (p.1, f) else p).1 = p.1
  split <;> rfl
theorem ky_pt (env : FEnv) (a : Str) (f : F2) : kyF (ptF env a f) = if a ∈ kyF env then kyF env else kyF env ++ [a] := by
  unfold ptF
  rw [any_ky]
  by_cases h : a ∈ kyF env
  · rw [decide_eq_true h, if_pos rfl, if_pos h, ky_map]
  · rw [decide_eq_false h, if_neg Bool.false_ne_true, if_neg h]
    unfold kyF
    rw [List.map_append]; rfl
theorem lk_pt (env : FEnv) (a : Str) (f : F2) (b : Str) : lkF (ptF env a f) b = if b = a then f else lkF env b := by
  have h1 : ∀ env : FEnv, lkF (env.map fun p => if p.1 = a then (p.1, f) else p) b = if b = a ∧ a ∈ kyF env then f else lkF env b := fun env => by
    induction env with
    | nil => rw [if_neg fun z => absurd z.2 List.not_mem_nil]; rfl
    | cons p e ih =>
      rw [List.map_cons, lkF, lkF, ih]
      by_cases h : p.1 = a
      · rw [if_pos h]
        dsimp only
        by_cases hb : b = a
        · rw [if_pos (h.trans hb.symm), if_pos ⟨hb, by unfold kyF; rw [List.map_cons, h]; exact List.mem_cons_self⟩]
        · rw [if_neg fun z => hb (z.symm.trans h), if_neg fun z => hb z.1, if_neg fun z => hb z.1, if_neg fun z => hb (z.symm.trans h)]
      · rw [if_neg h]
        by_cases hb : p.1 = b
        · rw [if_pos hb, if_neg fun z => h (hb.trans z.1), if_pos hb]
        · rw [if_neg hb, if_neg hb]
          by_cases q : b = a ∧ a ∈ kyF e
          · rw [if_pos q, if_pos ⟨q.1, by unfold kyF; rw [List.map_cons]; exact List.mem_cons_of_mem _ q.2⟩]
          · rw [if_neg q, if_neg fun z => q ⟨z.1, ?_⟩]
            have := z.2
            unfold kyF at this
            rw [List.map_cons] at this
            exact (List.mem_cons.mp this).resolve_left fun z => h z.symm
  have h2 : ∀ env : FEnv, a ∉ kyF env → lkF (env ++ [(a, f)]) b = if b = a then f else lkF env b := fun env => by
    induction env with
    | nil =>
      intro _
      show (if a = b then f else (0, 0)) = if b = a then f else (0, 0)
      by_cases h : a = b
      · rw [if_pos h, if_pos h.symm]
      · rw [if_neg h, if_neg fun z => h z.symm]
    | cons p e ih =>
      intro h
      have hp : p.1 ≠ a := fun z => h (by unfold kyF; rw [List.map_cons, z]; exact List.mem_cons_self)
      rw [List.cons_append, lkF, lkF, ih fun z => h (by unfold kyF; rw [List.map_cons]; exact List.mem_cons_of_mem _ z)]
      by_cases hb : p.1 = b
      · rw [if_pos hb, if_pos hb, if_neg fun z => hp (hb.trans z)]
      · rw [if_neg hb, if_neg hb]
  unfold ptF
  rw [any_ky]
  by_cases h : a ∈ kyF env
  · rw [decide_eq_true h, if_pos rfl, h1]
    by_cases hb : b = a
    · rw [if_pos ⟨hb, h⟩, if_pos hb]
    · rw [if_neg fun z => hb z.1, if_neg hb]
  · rw [decide_eq_false h, if_neg Bool.false_ne_true, h2 env h]
def joinF (ns : List Str) (e e' : FEnv) : FEnv := ns.map fun a => (a, commonN (lkF e a) (lkF e' a))
theorem ky_join (ns : List Str) (e e' : FEnv) : kyF (joinF ns e e') = ns := by
  unfold kyF joinF
  rw [List.map_map]
  exact List.map_id _
theorem lk_join : ∀ (ns : List Str) (e e' : FEnv) (a : Str), lkF (joinF ns e e') a = if a ∈ ns then commonN (lkF e a) (lkF e' a) else (0, 0)
  | [], e, e', a => by rw [if_neg List.not_mem_nil]; rfl
  | n :: ns, e, e', a => by
    show lkF ((n, commonN (lkF e n) (lkF e' n)) :: joinF ns e e') a = _
    rw [lkF, lk_join ns]
    dsimp only
    by_cases q : n = a
    · rw [if_pos q, if_pos (by rw [q]; exact List.mem_cons_self), q]
    · rw [if_neg q]
      by_cases z : a ∈ ns
      · rw [if_pos z, if_pos (List.mem_cons_of_mem _ z)]
      · rw [if_neg z, if_neg fun y => z ((List.mem_cons.mp y).resolve_left fun y => q y.symm)]
def LeF (f g : F2) : Prop := BSub f.1 g.1 ∧ BSub f.2 g.2
inductive LeE : FEnv → FEnv → Prop
  | nil : LeE [] []
  | cons {a : Str} {f g : F2} {e e' : FEnv} : LeF f g → LeE e e' → LeE ((a, f) :: e) ((a, g) :: e')
theorem LeF.rfl' {f : F2} : LeF f f := ⟨fun _ h => h, fun _ h => h⟩
theorem LeF.trans {f g h : F2} (a : LeF f g) (b : LeF g h) : LeF f h := ⟨fun k q => b.1 k (a.1 k q), fun k q => b.2 k (a.2 k q)⟩
theorem LeE.trans : ∀ {e f g : FEnv}, LeE e f → LeE f g → LeE e g
  | _, _, _, .nil, .nil => .nil
  | _, _, _, .cons a b, .cons c d => .cons (a.trans c) (b.trans d)
theorem LeE.ky : ∀ {e f : FEnv}, LeE e f → kyF e = kyF f
  | _, _, .nil => rfl
  | _, _, .cons (a := a) _ b => congrArg (a :: ·) b.ky
theorem LeE.lk : ∀ {e f : FEnv}, LeE e f → ∀ a, LeF (lkF e a) (lkF f a)
  | _, _, .nil, _ => LeF.rfl'
  | _, _, .cons h b, a => by
    rw [lkF, lkF]
    dsimp only
    split
    · exact h
    · exact b.lk a
theorem common_le {f g f' g' : F2} (h : LeF f g) (h' : LeF f' g') : LeF (commonN f f') (commonN g g') := by
  refine ⟨fun k q => ?_, fun k q => ?_⟩ <;> unfold commonN at q ⊢ <;> dsimp only at q ⊢ <;> rw [Nat.testBit_and, Bool.and_eq_true] at q ⊢
  · exact ⟨h.1 k q.1, h'.1 k q.2⟩
  · exact ⟨h.2 k q.1, h'.2 k q.2⟩
theorem common_l {f g : F2} : LeF (commonN f g) f := by
  refine ⟨fun k q => ?_, fun k q => ?_⟩ <;> unfold commonN at q <;> dsimp only at q <;> rw [Nat.testBit_and, Bool.and_eq_true] at q <;> exact q.1
theorem common_self (f : F2) : commonN f f = f := by unfold commonN; rw [Nat.and_self, Nat.and_self]
theorem LeE.join {e f e' f' : FEnv} (h : ∀ a, LeF (lkF e a) (lkF f a)) (h' : ∀ a, LeF (lkF e' a) (lkF f' a)) : ∀ ns : List Str, LeE (joinF ns e e') (joinF ns f f')
  | [] => .nil
  | _ :: ns => .cons (common_le (h _) (h' _)) (LeE.join h h' ns)
theorem LeE.pt {e e' : FEnv} (h : LeE e e') (a : Str) {f g : F2} (q : LeF f g) : LeE (ptF e a f) (ptF e' a g) := by
  have m : LeE (e.map fun p => if p.1 = a then (p.1, f) else p) (e'.map fun p => if p.1 = a then (p.1, g) else p) := by
    induction h with
    | nil => exact .nil
    | cons x _ ih =>
      rw [List.map_cons, List.map_cons]
      dsimp only
      split
      · exact .cons q ih
      · exact .cons x ih
  have s : LeE (e ++ [(a, f)]) (e' ++ [(a, g)]) := by
    clear m
    induction h with
    | nil => exact .cons q .nil
    | cons x _ ih => exact .cons x ih
  unfold ptF
  rw [any_ky, any_ky, h.ky]
  split
  · exact m
  · exact s
end DL
set_option Elab.async false
set_option linter.all false
set_option maxRecDepth 100000
set_option maxHeartbeats 2000000
set_option autoImplicit false
namespace DL
open PySem PySem.Spec L2
open PyProof.Rows hiding St
def FOk (w : Nat) (env : FEnv) : Prop := ∀ a, Fc w (lkF env a)
theorem fc_zero (w : Nat) : Fc w (0, 0) := ⟨Nat.two_pow_pos w, Nat.two_pow_pos w, rfl⟩
theorem fc_of {w : Nat} {f : F2} (h1 : f.1 < 2 ^ w) (h2 : f.2 < 2 ^ w) (h : ∀ k, f.1.testBit k = true → f.2.testBit k = false) : Fc w f :=
  ⟨h1, h2, Nat.eq_of_testBit_eq fun k => by
    rw [Nat.testBit_and, Nat.zero_testBit]
    cases e : f.1.testBit k with
    | false => rfl
    | true => rw [h k e]; rfl⟩
theorem bsub_lt {w a b : Nat} (h : BSub a b) (q : b < 2 ^ w) : a < 2 ^ w := Nat.lt_of_le_of_lt h.le q
theorem fc_le {w : Nat} {f g : F2} (h : LeF f g) (q : Fc w g) : Fc w f :=
  fc_of (bsub_lt h.1 q.zl) (bsub_lt h.2 q.ol) fun k z => Bool.eq_false_iff.mpr fun y => absurd (h.2 k y) (by rw [q.no (h.1 k z)]; exact Bool.false_ne_true)
theorem fc_common {w : Nat} {f g : F2} (h : Fc w f) : Fc w (commonN f g) := fc_le common_l h
theorem FOk.pt {w : Nat} {env : FEnv} (h : FOk w env) {a : Str} {f : F2} (q : Fc w f) : FOk w (ptF env a f) := fun b => by
  rw [lk_pt]; split
  · exact q
  · exact h b
theorem FOk.le {w : Nat} {h e : FEnv} (q : FOk w h) (l : LeE e h) : FOk w e := fun a => fc_le (l.lk a) (q a)
theorem FOk.join {w : Nat} {e e' : FEnv} (q : FOk w e) (ns : List Str) : FOk w (joinF ns e e') := fun a => by
  rw [lk_join]; split
  · exact fc_common (q a)
  · exact fc_zero w
theorem fits_le {w : Nat} {f g : F2} (h : LeF f g) {x : Nat} (q : Fits w g x) : Fits w f x := fits_of q.lt (fun k z => q.bz (h.1 k z)) fun k z => q.bo (h.2 k z)
def way1 (w : Nat) (f : F2) : Bool := decide (f.1 ≠ fullN w)
def way2 (f : F2) : Bool := decide (f.2 = 0)
end DL
set_option Elab.async false
set_option linter.all false
set_option maxRecDepth 100000
set_option maxHeartbeats 2000000
set_option autoImplicit false
namespace DL
open PySem PySem.Spec L2
open PyProof.Rows hiding St
abbrev Tld := Nat → Option FEnv
end DL
set_option Elab.async false
set_option linter.all false
set_option maxRecDepth 100000
set_option maxHeartbeats 2000000
namespace DL
open PySem PySem.Spec L2
open PyProof.Rows hiding St
theorem eqvRefl {d : PyData} (h : SeqAt.shaped d = true) : PyData.eqv d d = true := by
  have h1 : (PyData.canLay0 d && decide (PyData.depth d ≤ 64)) = true := h
  exact SeqAt.eqv_refl d (Bool.and_eq_true_iff.mp h1).1
end DL
set_option Elab.async false
set_option linter.all false
set_option maxRecDepth 100000
set_option maxHeartbeats 2000000
set_option autoImplicit false
namespace DL
open PySem PySem.Spec L2
open PyProof.Rows hiding St
def leS (a b : Str) : Prop := ltCps b.cps.toList a.cps.toList = false
/-- what is told ahead has facts, of unlike names -/
structure TlGood (w : Nat) (ns : List Str) (e : FEnv) : Prop where
  ok : FOk w e
  nd : (kyF e).Nodup
  sub : ∀ a ∈ kyF e, a ∈ ns
theorem TlGood.pt {w : Nat} {ns : List Str} {e : FEnv} (h : TlGood w ns e) {a : Str} (ha : a ∈ ns) {f : F2} (hf : Fc w f) : TlGood w ns (ptF e a f) := by
  refine ⟨h.ok.pt hf, ?_, ?_⟩
  · rw [ky_pt]
    split
    · exact h.nd
    · rename_i n
      rw [List.nodup_append]
      exact ⟨h.nd, List.nodup_cons.mpr ⟨List.not_mem_nil, List.nodup_nil⟩, fun b hb c hc z => n (by rw [List.mem_singleton.mp hc] at z; rw [← z]; exact hb)⟩
  · intro b hb
    rw [ky_pt] at hb
    split at hb
    · exact h.sub b hb
    · rcases List.mem_append.mp hb with hb | hb
      · exact h.sub b hb
      · rw [List.mem_singleton.mp hb]; exact ha
theorem strs_le : ∀ {ks ls : List Str}, ks.Nodup → (∀ k ∈ ks, k ∈ ls) → ks.length ≤ ls.length
  | [], ls, _, _ => Nat.zero_le _
  | k :: ks, ls, h, hm => by
    rw [List.nodup_cons] at h
    have ih := strs_le (ls := ls.erase k) h.2 fun j hj => (List.mem_erase_of_ne (fun e => h.1 (by rw [← e]; exact hj))).mpr (hm j (List.mem_cons_of_mem _ hj))
    have hk := hm k List.mem_cons_self
    rw [List.length_erase_of_mem hk] at ih
    have := List.length_pos_of_mem hk
    rw [List.length_cons]; omega
end DL
set_option Elab.async false
set_option linter.all false
set_option maxRecDepth 100000
set_option maxHeartbeats 2000000
namespace DL
open PySem PySem.Spec L2
open PyProof.Rows hiding St
section
variable {X : Cx} {W : WW} {pos : Pos}
theorem de_gref {x : Str} {a : Addr} (hm : X.mg x = some (.ref a)) (hg : Gl X x := by rfl) (hd : (x == ("__debug__" : Str)) = false := by decide) : DE X W (.Name x pos) (wC (.o a)) :=
  ⟨_, pe_glob (v := .ref a) hg hm rfl hd, fun J H _ _ M _ _ _ d _ h c _ => c (.o a) (.ref a) J H M h Ex.rfl' d (.o a)⟩
end
end DL
set_option Elab.async false
set_option linter.all false
set_option maxRecDepth 100000
set_option maxHeartbeats 2000000
namespace DL
open PySem PySem.Spec L2
open PyProof.Rows hiding St
/-- what holds of rows and what is told ahead of them -/
def TlSo (T : Tld) (xs : List Rw) (pl : Nat) : Prop := ∀ i x e, xs[i]? = some x → T (pl + i) = some e → x.So (kyF e)
theorem TlSo.app {T : Tld} {xs ys : List Rw} {pl : Nat} (h : TlSo T xs pl) (g : TlSo T ys (pl + xs.length)) : TlSo T (xs ++ ys) pl := fun i x e hx he => by
  by_cases l : i < xs.length
  · exact h i x e (by rwa [List.getElem?_append_left l] at hx) he
  · have l' : xs.length ≤ i := Nat.le_of_not_lt l
    refine g (i - xs.length) x e (by rwa [List.getElem?_append_right l'] at hx) ?_
    rw [show pl + xs.length + (i - xs.length) = pl + i by omega]
    exact he
theorem TlSo.cons {T : Tld} {x : Rw} {ys : List Rw} {pl : Nat} (h : ∀ e, T pl = some e → x.So (kyF e)) (g : TlSo T ys (pl + 1)) : TlSo T (x :: ys) pl := fun i y e hx he => by
  cases i with
  | zero => simp at hx; rw [← hx]; exact h e he
  | succ i => exact g i y e (by simpa using hx) (by rw [show pl + 1 + i = pl + (i + 1) by omega]; exact he)
theorem TlSo.ext {T T' : Tld} {xs : List Rw} {pl : Nat} (h : TlSo T xs pl) (e : ∀ q, pl ≤ q → q < pl + xs.length → T' q = T q) : TlSo T' xs pl := fun i x en hx he => by
  have l := (List.getElem?_eq_some_iff.mp hx).1
  exact h i x en hx (by rw [← e (pl + i) (by omega) (by omega)]; exact he)
theorem TlSo.none {T : Tld} {xs : List Rw} {pl : Nat} (h : ∀ q, pl ≤ q → q < pl + xs.length → T q = none) : TlSo T xs pl := fun i x en hx he => by
  have l := (List.getElem?_eq_some_iff.mp hx).1
  rw [h (pl + i) (by omega) (by omega)] at he
  cases he
end DL
set_option Elab.async false
set_option linter.all false
set_option maxRecDepth 100000
set_option maxHeartbeats 2000000
set_option Elab.async false
set_option linter.all false
set_option maxRecDepth 100000
set_option maxHeartbeats 2000000
set_option Elab.async false
set_option linter.all false
set_option maxRecDepth 100000
set_option maxHeartbeats 2000000
set_option autoImplicit false
namespace DL
open PySem PySem.Spec L2
open PyProof.Rows hiding St
def Hold (w : Nat) (e : FEnv) (s : Str → Nat) : Prop := ∀ a, Fits w (lkF e a) (s a)
theorem Hold.le {w : Nat} {e e' : FEnv} {s : Str → Nat} (h : Hold w e s) (l : ∀ a, LeF (lkF e' a) (lkF e a)) : Hold w e' s := fun a => fits_le (l a) (h a)
theorem Hold.pt {w : Nat} {e : FEnv} {s : Str → Nat} (h : Hold w e s) {a : Str} {f : F2} {v : Nat} (q : Fits w f v) : Hold w (ptF e a f) (upS s a v) := fun b => by
  rw [lk_pt]
  unfold upS
  split
  · exact q
  · exact h b
end DL
set_option Elab.async false
set_option linter.all false
set_option maxRecDepth 100000
set_option maxHeartbeats 2000000
set_option Elab.async false
set_option linter.all false
set_option maxRecDepth 100000
set_option maxHeartbeats 2000000
set_option Elab.async false
set_option linter.all false
set_option maxRecDepth 100000
set_option maxHeartbeats 2000000
set_option autoImplicit false
namespace DL
open PySem PySem.Spec L2
open PyProof.Rows hiding St
structure EqE (d e : FEnv) : Prop where
  nd : (kyF d).Nodup
  nd' : (kyF e).Nodup
  ky : ∀ a, a ∈ kyF d ↔ a ∈ kyF e
  lk : ∀ a, lkF d a = lkF e a
theorem EqE.fn {d e : FEnv} (h : EqE d e) : lkF d = lkF e := funext h.lk
theorem EqE.ok {w : Nat} {d e : FEnv} (h : EqE d e) (f : FOk w d) : FOk w e := fun a => by rw [← h.lk a]; exact f a
theorem nd_pt {e : FEnv} (h : (kyF e).Nodup) (a : Str) (f : F2) : (kyF (ptF e a f)).Nodup := by
  rw [ky_pt]
  split
  · exact h
  · rename_i n
    rw [List.nodup_append]
    exact ⟨h, List.nodup_cons.mpr ⟨List.not_mem_nil, List.nodup_nil⟩, fun b hb c hc z => n (by rw [List.mem_singleton.mp hc] at z; rw [← z]; exact hb)⟩
theorem mem_pt {e : FEnv} {a b : Str} {f : F2} : b ∈ kyF (ptF e a f) ↔ b ∈ kyF e ∨ b = a := by
  rw [ky_pt]
  split
  · rename_i h
    exact ⟨.inl, fun q => q.elim id fun z => z ▸ h⟩
  · rw [List.mem_append, List.mem_singleton]
theorem EqE.pt {d e : FEnv} (h : EqE d e) (a : Str) (f : F2) : EqE (ptF d a f) (ptF e a f) :=
  ⟨nd_pt h.nd a f, nd_pt h.nd' a f, fun b => by rw [mem_pt, mem_pt, h.ky], fun b => by rw [lk_pt, lk_pt, h.lk]⟩
/-- joined, by names that are the same -/
theorem EqE.join {d1 d2 e1 e2 : FEnv} {ns ms : List Str} (h1 : ∀ a, lkF d1 a = lkF e1 a) (h2 : ∀ a, lkF d2 a = lkF e2 a) (n1 : ns.Nodup) (n2 : ms.Nodup) (nm : ∀ a, a ∈ ns ↔ a ∈ ms) : EqE (joinF ns d1 d2) (joinF ms e1 e2) :=
  ⟨by rw [ky_join]; exact n1, by rw [ky_join]; exact n2, fun a => by rw [ky_join, ky_join, nm], fun a => by
    rw [lk_join, lk_join, h1, h2]
    by_cases z : a ∈ ns
    · rw [if_pos z, if_pos ((nm a).mp z)]
    · rw [if_neg z, if_neg fun y => z ((nm a).mpr y)]⟩
end DL
set_option Elab.async false
set_option linter.all false
set_option maxRecDepth 100000
set_option maxHeartbeats 2000000
set_option Elab.async false
set_option linter.all false
set_option maxRecDepth 100000
set_option maxHeartbeats 2000000
set_option Elab.async false
set_option linter.all false
set_option maxRecDepth 100000
set_option maxHeartbeats 2000000
set_option Elab.async false
set_option linter.all false
set_option maxRecDepth 100000
set_option maxHeartbeats 2000000
set_option Elab.async false
set_option linter.all false
set_option maxRecDepth 100000
set_option maxHeartbeats 2000000
set_option autoImplicit false
namespace DL
open PySem PySem.Spec L2
open PyProof.Rows hiding St
structure WdN (names known : List Str) (s : Str → Nat) (kvs : List (Key × R)) : Prop where
  at' : ∀ a ∈ known, valR kvs (.inr a) = some (.int (s a : Nat))
  ks : ∃ l : List Str, kvs.map (·.1) = l.map Sum.inr ∧ l.Nodup ∧ ∀ a ∈ l, a ∈ names
theorem WdN.len {names known : List Str} {s : Str → Nat} {kvs : List (Key × R)} (h : WdN names known s kvs) : kvs.length ≤ names.length := by
  obtain ⟨l, h1, h2, h3⟩ := h.ks
  have := congrArg List.length h1
  rw [List.length_map, List.length_map] at this
  rw [this]
  exact strs_le h2 h3
theorem WdN.sub {names known known' : List Str} {s : Str → Nat} {kvs : List (Key × R)} (h : WdN names known s kvs) (g : ∀ a ∈ known', a ∈ known) : WdN names known' s kvs := ⟨fun a ha => h.at' a (g a ha), h.ks⟩
theorem put_keys (kvs : List (Key × R)) (l : List Str) (h : kvs.map (·.1) = l.map Sum.inr) (a : Str) (r : R) : (putR kvs (.inr a) r).map (·.1) = (if a ∈ l then l else l ++ [a]).map Sum.inr := by
  have any : (kvs.any fun kv => decide (kv.1 = (.inr a : Key))) = decide (a ∈ l) := by
    rw [Bool.eq_iff_iff, List.any_eq_true, decide_eq_true_iff]
    constructor
    · rintro ⟨kv, h1, h2⟩
      have : kv.1 ∈ l.map (Sum.inr : Str → Key) := by rw [← h]; exact List.mem_map_of_mem h1
      obtain ⟨b, hb, e⟩ := List.mem_map.mp this
      rw [of_decide_eq_true h2] at e
      exact Sum.inr.inj e ▸ hb
    · intro ha
      have : (Sum.inr a : Key) ∈ kvs.map (·.1) := by rw [h]; exact List.mem_map_of_mem ha
      obtain ⟨kv, h1, h2⟩ := List.mem_map.mp this
      exact ⟨kv, h1, decide_eq_true h2⟩
  unfold putR
  rw [any]
  by_cases z : a ∈ l
  · rw [decide_eq_true z, if_pos rfl, if_pos z, List.map_map, ← h]
    exact List.map_congr_left fun kv _ => by
      show (if kv.1 = (.inr a : Key) then (kv.1, r) else kv).1 = kv.1
      split <;> rfl
  · rw [decide_eq_false z, if_neg Bool.false_ne_true, if_neg z, List.map_append, List.map_append, h]; rfl
theorem WdN.put {names known : List Str} {s : Str → Nat} {kvs : List (Key × R)} (h : WdN names known s kvs) {a : Str} (ha : a ∈ names) (v : Nat) : WdN names (if a ∈ known then known else known ++ [a]) (upS s a v) (putR kvs (.inr a) (.int (v : Nat))) := by
  obtain ⟨l, h1, h2, h3⟩ := h.ks
  refine ⟨fun b hb => ?_, _, put_keys kvs l h1 a _, ?_, ?_⟩
  · rw [vput]
    unfold upS
    by_cases e : b = a
    · rw [if_pos (by rw [e]), if_pos e]
    · rw [if_neg (fun z => e (Sum.inr.inj z)), if_neg e]
      refine h.at' b ?_
      split at hb
      · exact hb
      · exact (List.mem_append.mp hb).resolve_right fun z => e (List.mem_singleton.mp z)
  · split
    · exact h2
    · rename_i z
      rw [List.nodup_append]
      exact ⟨h2, List.nodup_cons.mpr ⟨List.not_mem_nil, List.nodup_nil⟩, fun b hb c hc y => z (by rw [List.mem_singleton.mp hc] at y; rw [← y]; exact hb)⟩
  · intro b hb
    split at hb
    · exact h3 b hb
    · rcases List.mem_append.mp hb with hb | hb
      · exact h3 b hb
      · rw [List.mem_singleton.mp hb]; exact ha
end DL
set_option Elab.async false
set_option linter.all false
set_option maxRecDepth 100000
set_option maxHeartbeats 2000000
set_option autoImplicit false
set_option Elab.async false
set_option linter.all false
set_option maxRecDepth 100000
set_option maxHeartbeats 2000000
set_option autoImplicit false
namespace DL
open PySem PySem.Spec L2
open PyProof.Rows hiding St
abbrev NS := Str → Nat → Prop
def NSub (A B : NS) : Prop := ∀ a k, A a k → B a k
def nU (A B : NS) : NS := fun a k => A a k ∨ B a k
def n0 : NS := fun _ _ => False
theorem NSub.trans {A B C : NS} (h : NSub A B) (g : NSub B C) : NSub A C := fun a k q => g a k (h a k q)
def lfpN (F : NS → NS) : NS := fun a k => ∀ X : NS, NSub (F X) X → X a k
/-- the lowest bit of some -/
def lowB (n k : Nat) : Prop := n.testBit k = true ∧ ∀ j, j < k → n.testBit j = false
def upH (A : Nat → Prop) (k : Nat) : Prop := ∃ j, k ≤ j ∧ A j
/-- what an expression asks of its names -/
def askX (w : Nat) (env : Str → F2) : Xp → (Nat → Prop) → NS
  | .num _, _ => n0
  | .cop c, A => fun b k => b = c ∧ A k
  | .mov u c m, A => fun b k => b = c ∧ if u = true then A (k + m) else m ≤ k ∧ k < w ∧ A (k - m)
  | .pic c d e, A => fun b k => (∃ j, A j) ∧ if (env c).2 ≠ 0 then (b = c ∧ lowB (env c).2 k) ∨ (b = d ∧ A k) else if (env c).1 = fullN w then (b = c ∧ k < w) ∨ (b = e ∧ A k) else (b = c ∧ k < w) ∨ (b = d ∧ A k) ∨ (b = e ∧ A k)
  | .par x c d, A => fun b k => if x = "add" ∨ x = "less" then (b = c ∨ b = d) ∧ upH A k else if x = "same" ∨ x = "below" then (b = c ∨ b = d) ∧ k < w ∧ A 0 else if x = "unlike" then (b = c ∨ b = d) ∧ A k
      else if x = "and" then (b = d ∧ A k) ∨ (b = c ∧ A k ∧ (env d).1.testBit k = false) else (b = d ∧ A k) ∨ (b = c ∧ A k ∧ (env d).2.testBit k = false)
mutual
/-- nothing is told within, and no such name is set -/
def Rw.qt (S : Str → Prop) : Rw → Prop
  | .set a _ => ¬ S a
  | .tell _ => False
  | .iff _ p q => Rw.qtl S p ∧ Rw.qtl S q
  | .rnd _ p => Rw.qtl S p
def Rw.qtl (S : Str → Prop) : List Rw → Prop
  | [] => True
  | x :: xs => x.qt S ∧ Rw.qtl S xs
end
def Nd (L : NS) : Str → Prop := fun a => ∃ k, L a k
def idleN (p q : List Rw) (L : NS) : Prop := Rw.qtl (Nd L) p ∧ Rw.qtl (Nd L) q
/-- what an if asks of its name -/
def askIf (w : Nat) (f : F2) (k : Nat) : Prop := if f.2 = 0 then k < w else lowB f.2 k
mutual
/-- the needs ahead of a row at a place, by those behind it -/
def Rw.nd (w : Nat) (T : Tld) : Rw → Nat → NS → NS
  | .set a e, pl, L => match T pl with
    | none => L
    | some env => fun b k => (b ≠ a ∧ L b k) ∨ askX w (lkF env) e (L a) b k
  | .tell a, pl, L => match T pl with
    | none => L
    | some _ => fun b k => L b k ∨ (b = a ∧ k < w)
  | .iff a p q, pl, L => match T pl with
    | none => L
    | some env => fun b k => (idleN p q L ∧ L b k) ∨ (¬ idleN p q L ∧ ((way1 w (lkF env a) = true ∧ Rw.ndl w T p (pl + 1) L b k) ∨ (way2 (lkF env a) = true ∧ Rw.ndl w T q (pl + 1 + Rw.ctl p) L b k) ∨ (b = a ∧ askIf w (lkF env a) k)))
  | .rnd n p, pl, L => match T pl with
    | none => L
    | some _ => if 0 < n then Rw.ndl w T p (pl + 1) (lfpN fun X => nU L (Rw.ndl w T p (pl + 1) X)) else L
def Rw.ndl (w : Nat) (T : Tld) : List Rw → Nat → NS → NS
  | [], _, L => L
  | x :: xs, pl, L => x.nd w T pl (Rw.ndl w T xs (pl + x.ct) L)
end
end DL
set_option Elab.async false
set_option linter.all false
set_option maxRecDepth 100000
set_option maxHeartbeats 2000000
set_option autoImplicit false
namespace DL
open PySem PySem.Spec L2
open PyProof.Rows hiding St
def Agr (L : NS) (s t : Str → Nat) : Prop := ∀ a k, L a k → (s a).testBit k = (t a).testBit k
theorem Agr.sub {L L' : NS} {s t : Str → Nat} (h : Agr L s t) (g : NSub L' L) : Agr L' s t := fun a k q => h a k (g a k q)
end DL
set_option Elab.async false
set_option linter.all false
set_option maxRecDepth 100000
set_option maxHeartbeats 2000000
set_option autoImplicit false
set_option Elab.async false
set_option linter.all false
set_option maxRecDepth 100000
set_option maxHeartbeats 2000000
set_option autoImplicit false
set_option Elab.async false
set_option linter.all false
set_option maxRecDepth 100000
set_option maxHeartbeats 2000000
set_option autoImplicit false
set_option Elab.async false
set_option linter.all false
set_option maxRecDepth 100000
set_option maxHeartbeats 2000000
set_option autoImplicit false
namespace DL
open PySem PySem.Spec PyProof.Rows PyProof.V L2
structure ZilG (xs ys : Array Value) (lo : Addr) (h : Heap) (as : List Addr) : Prop where
  rise : as.Pairwise (· < ·)
  above : ∀ a ∈ as, lo < a
  pairs : ∀ (j : Nat) (a : Addr), as[j]? = some a → ∃ x y, xs[j]? = some x ∧ ys[j]? = some y ∧ IsPair h a x y
theorem ZilG.there {xs ys : Array Value} {lo : Addr} {h : Heap} {as : List Addr} (g : ZilG xs ys lo h as) {a : Addr} (ha : a ∈ as) : a < h.objs.size := by
  obtain ⟨j, hj⟩ := List.mem_iff_getElem?.mp ha
  obtain ⟨_, _, _, _, e⟩ := g.pairs j a hj
  exact Heap.lt_size e
end DL
set_option Elab.async false
set_option linter.all false
set_option maxRecDepth 100000
set_option maxHeartbeats 2000000
set_option autoImplicit false
set_option Elab.async false
set_option linter.all false
set_option maxRecDepth 100000
set_option maxHeartbeats 2000000
set_option autoImplicit false
namespace DL
open PySem PySem.Spec L2
open PyProof.Rows hiding St
abbrev NEnv := List (Str × Nat)
def pnR (p : Str × Nat) : R := .tup [.str p.1, .int (p.2 : Nat)]
end DL
set_option Elab.async false
set_option linter.all false
set_option maxRecDepth 100000
set_option maxHeartbeats 2000000
set_option autoImplicit false
set_option Elab.async false
set_option linter.all false
set_option maxRecDepth 100000
set_option maxHeartbeats 2000000
set_option autoImplicit false
namespace DL
open PySem PySem.Spec L2
open PyProof.Rows hiding St
def lkN : NEnv → Str → Nat
  | [], _ => 0
  | p :: e, a => if p.1 = a then p.2 else lkN e a
def kyN (env : NEnv) : List Str := env.map (·.1)
def ptN (env : NEnv) (a : Str) (f : Nat) : NEnv := if (env.any fun p => decide (p.1 = a)) = true then env.map (fun p => if p.1 = a then (p.1, f) else p) else env ++ [(a, f)]
def dkN (env : NEnv) : List (Key × R) := env.map fun p => (Sum.inr p.1, R.int (p.2 : Nat))
theorem any_kyN (env : NEnv) (a : Str) : (env.any fun p => decide (p.1 = a)) = decide (a ∈ kyN env) := by
  induction env with
  | nil => rfl
  | cons p e ih =>
    rw [List.any_cons, ih]
    unfold kyN
    rw [List.map_cons]
    by_cases h : p.1 = a
    · rw [decide_eq_true h, Bool.true_or, decide_eq_true]; rw [h]; exact List.mem_cons_self
    · rw [decide_eq_false h, Bool.false_or]
      refine decide_eq_decide.mpr ⟨List.mem_cons_of_mem _, fun q => ?_⟩
      exact (List.mem_cons.mp q).resolve_left fun z => h z.symm
theorem ky_mapN (env : NEnv) (a : Str) (f : Nat) : kyN (env.map fun p => if p.1 = a then (p.1, f) else p) = kyN env := by
  unfold kyN
  rw [List.map_map]
  refine List.map_congr_left fun p _ => ?_
  show (if p.1 = a then (p.1, f) else p).1 = p.1
  split <;> rfl
theorem ky_ptN (env : NEnv) (a : Str) (f : Nat) : kyN (ptN env a f) = if a ∈ kyN env then kyN env else kyN env ++ [a] := by
  unfold ptN
  rw [any_kyN]
  by_cases h : a ∈ kyN env
  · rw [decide_eq_true h, if_pos rfl, if_pos h, ky_mapN]
  · rw [decide_eq_false h, if_neg Bool.false_ne_true, if_neg h]
    unfold kyN
    rw [List.map_append]; rfl
theorem lk_ptN (env : NEnv) (a : Str) (f : Nat) (b : Str) : lkN (ptN env a f) b = if b = a then f else lkN env b := by
  have h1 : ∀ env : NEnv, lkN (env.map fun p => if p.1 = a then (p.1, f) else p) b = if b = a ∧ a ∈ kyN env then f else lkN env b := fun env => by
    induction env with
    | nil => rw [if_neg fun z => absurd z.2 List.not_mem_nil]; rfl
    | cons p e ih =>
      rw [List.map_cons, lkN, lkN, ih]
      by_cases h : p.1 = a
      · rw [if_pos h]
        dsimp only
        by_cases hb : b = a
        · rw [if_pos (h.trans hb.symm), if_pos ⟨hb, by unfold kyN; rw [List.map_cons, h]; exact List.mem_cons_self⟩]
        · rw [if_neg fun z => hb (z.symm.trans h), if_neg fun z => hb z.1, if_neg fun z => hb z.1, if_neg fun z => hb (z.symm.trans h)]
      · rw [if_neg h]
        by_cases hb : p.1 = b
        · rw [if_pos hb, if_neg fun z => h (hb.trans z.1), if_pos hb]
        · rw [if_neg hb, if_neg hb]
          by_cases q : b = a ∧ a ∈ kyN e
          · rw [if_pos q, if_pos ⟨q.1, by unfold kyN; rw [List.map_cons]; exact List.mem_cons_of_mem _ q.2⟩]
          · rw [if_neg q, if_neg fun z => q ⟨z.1, ?_⟩]
            have := z.2
            unfold kyN at this
            rw [List.map_cons] at this
            exact (List.mem_cons.mp this).resolve_left fun z => h z.symm
  have h2 : ∀ env : NEnv, a ∉ kyN env → lkN (env ++ [(a, f)]) b = if b = a then f else lkN env b := fun env => by
    induction env with
    | nil =>
      intro _
      show (if a = b then f else 0) = if b = a then f else 0
      by_cases h : a = b
      · rw [if_pos h, if_pos h.symm]
      · rw [if_neg h, if_neg fun z => h z.symm]
    | cons p e ih =>
      intro h
      have hp : p.1 ≠ a := fun z => h (by unfold kyN; rw [List.map_cons, z]; exact List.mem_cons_self)
      rw [List.cons_append, lkN, lkN, ih fun z => h (by unfold kyN; rw [List.map_cons]; exact List.mem_cons_of_mem _ z)]
      by_cases hb : p.1 = b
      · rw [if_pos hb, if_pos hb, if_neg fun z => hp (hb.trans z)]
      · rw [if_neg hb, if_neg hb]
  unfold ptN
  rw [any_kyN]
  by_cases h : a ∈ kyN env
  · rw [decide_eq_true h, if_pos rfl, h1]
    by_cases hb : b = a
    · rw [if_pos ⟨hb, h⟩, if_pos hb]
    · rw [if_neg fun z => hb z.1, if_neg hb]
  · rw [decide_eq_false h, if_neg Bool.false_ne_true, h2 env h]
theorem lk_memN : ∀ {env : NEnv}, (kyN env).Nodup → ∀ {p : Str × Nat}, p ∈ env → lkN env p.1 = p.2
  | [], _, _, h => by cases h
  | q :: e, nd, p, h => by
    unfold kyN at nd
    rw [List.map_cons, List.nodup_cons] at nd
    rcases List.mem_cons.mp h with rfl | h
    · rw [lkN, if_pos rfl]
    · rw [lkN, if_neg fun z => nd.1 (by rw [z]; exact List.mem_map.mpr ⟨p, h, rfl⟩)]
      exact lk_memN nd.2 h
/-- the bits by names -/
def denN (env : NEnv) : NS := fun a k => (lkN env a).testBit k = true
/-- some bits more -/
def orP (f : NEnv) (p : Str × Nat) : NEnv := ptN f p.1 (lkN f p.1 ||| p.2)
/-- needs that are told: each name once, the names known, words of w bits -/
structure NGood (w : Nat) (ns : List Str) (env : NEnv) : Prop where
  nd : (kyN env).Nodup
  sub : ∀ a ∈ kyN env, a ∈ ns
  lt : ∀ a, lkN env a < 2 ^ w
theorem NGood.nil (w : Nat) (ns : List Str) : NGood w ns [] := ⟨List.nodup_nil, fun a h => (by cases h), fun a => Nat.pow_pos (by decide)⟩
theorem NGood.or {w : Nat} {ns : List Str} {f : NEnv} (h : NGood w ns f) {p : Str × Nat} (hp : p.1 ∈ ns) (hl : p.2 < 2 ^ w) : NGood w ns (orP f p) := by
  refine ⟨?_, fun a ha => ?_, fun a => ?_⟩
  · unfold orP
    rw [ky_ptN]
    split
    · exact h.nd
    · rename_i n
      rw [List.nodup_append]
      exact ⟨h.nd, by simp, fun x hx y hy z => n (by rw [← List.mem_singleton.mp hy, ← z]; exact hx)⟩
  · unfold orP at ha
    rw [ky_ptN] at ha
    split at ha
    · exact h.sub a ha
    · rcases List.mem_append.mp ha with ha | ha
      · exact h.sub a ha
      · rw [List.mem_singleton.mp ha]; exact hp
  · unfold orP
    rw [lk_ptN]
    split
    · exact Nat.or_lt_two_pow (h.lt _) hl
    · exact h.lt a
theorem NGood.mem {w : Nat} {ns : List Str} {env : NEnv} (h : NGood w ns env) : ∀ p ∈ env, p.1 ∈ ns ∧ p.2 < 2 ^ w := fun p hp =>
  ⟨h.sub _ (List.mem_map.mpr ⟨p, hp, rfl⟩), by rw [← lk_memN h.nd hp]; exact h.lt _⟩
theorem NGood.len {w : Nat} {ns : List Str} {env : NEnv} (h : NGood w ns env) : (kyN env).length ≤ ns.length := strs_le h.nd h.sub
end DL
set_option Elab.async false
set_option linter.all false
set_option maxRecDepth 100000
set_option maxHeartbeats 2000000
set_option autoImplicit false
namespace DL
open PySem PySem.Spec L2
open PyProof.Rows hiding St
def NdR (L : NS) (r : R) : Prop := ∃ qs : NEnv, (kyN qs).Nodup ∧ (kyN qs).Pairwise leS ∧ (∀ p ∈ qs, p.2 ≠ 0) ∧ denN qs = L ∧ r = .pt (qs.map pnR)
abbrev Memo := Nat → NS
end DL
set_option Elab.async false
set_option linter.all false
set_option maxRecDepth 100000
set_option maxHeartbeats 2000000
set_option autoImplicit false
namespace DL
open PySem PySem.Spec L2
open PyProof.Rows hiding St
abbrev Nbs := Nat → Option (NS × NS)
theorem nd_le {α : Type} [DecidableEq α] : ∀ {ks ls : List α}, ks.Nodup → (∀ k ∈ ks, k ∈ ls) → ks.length ≤ ls.length
  | [], _, _, _ => Nat.zero_le _
  | k :: ks, ls, nd, h => by
    rw [List.nodup_cons] at nd
    have m := h k List.mem_cons_self
    have := nd_le (ls := ls.erase k) nd.2 fun q hq => (List.mem_erase_of_ne (fun z => nd.1 (by rw [← z]; exact hq))).mpr (h q (List.mem_cons_of_mem _ hq))
    rw [List.length_erase_of_mem m] at this
    have := List.length_pos_of_mem m
    rw [List.length_cons]
    omega
/-- what is told of places, the rest as it was -/
structure TdP (f : Nbs) (tl tl' : List R) : Prop where
  ln : tl'.length = tl.length
  no : ∀ q, f q = none → tl'[q]? = tl[q]?
  yes : ∀ q A B, f q = some (A, B) → ∃ r1 r2, tl'[q]? = some (.tup [r1, r2]) ∧ NdR A r1 ∧ NdR B r2
structure IdP (RW : Nat → Option Rw) (f : Nbs) (il il' : List R) : Prop where
  ln : il'.length = il.length
  no : ∀ q, f q = none → il'[q]? = il[q]?
  yes : ∀ q A B c p r, f q = some (A, B) → RW q = some (.iff c p r) → ∃ v, il'[q]? = some (.bl v) ∧ (v = true ↔ idleN p r B)
theorem TdP.none {f : Nbs} {tl : List R} (h : ∀ q, f q = none) : TdP f tl tl := ⟨rfl, fun _ _ => rfl, fun q A B e => by rw [h q] at e; cases e⟩
theorem IdP.none {RW : Nat → Option Rw} {f : Nbs} {tl : List R} (h : ∀ q, f q = none) : IdP RW f tl tl := ⟨rfl, fun _ _ => rfl, fun q A B c p r e => by rw [h q] at e; cases e⟩
def bwF (w : Nat) (fr t i e : Addr) : List (Str × R) := [("every", .int ((2 ^ w - 1 : Nat) : Int)), ("fronts", .o fr), ("told", .o t), ("idle", .o i), ("ends", .o e)]
def FrOk (M : MH) (e : Addr) : Option FEnv → Option R → Prop
  | none, r => r = some .non
  | some en, r => ∃ a kvs, r = some (.o a) ∧ a ≠ e ∧ M a = some (.dK kvs) ∧ ∀ b ∈ kyF en, valR kvs (.inr b) = some (f2R (lkF en b))
def Dk (M : MH) (e a : Addr) (en : NEnv) : Prop := a ≠ e ∧ M a = some (.dK (dkN en))
def MmOk (M : MH) (e : Addr) (w : Nat) (ns : List Str) (L : NS) : Option R → Prop
  | none => L = n0
  | some r => ∃ b en, r = .o b ∧ Dk M e b en ∧ NGood w ns en ∧ denN en = L
structure EsOk (n : Nat) (es : List (Key × R)) : Prop where
  nd : (es.map (·.1)).Nodup
  lt : ∀ k ∈ es.map (·.1), ∃ q : Nat, k = .inl (q : Int) ∧ q < n
structure BwSt (C : Addr) (w n : Nat) (ns : List Str) (f fr t i e : Addr) (T : Tld) (tl il : List R) (m : Memo) (M : MH) : Prop where
  A : M f = some (.ins C (bwF w fr t i e))
  F : ∃ fl, M fr = some (.lst fl) ∧ fl.length = n ∧ ∀ q, q < n → FrOk M e (T q) fl[q]?
  tM : M t = some (.lst tl)
  tn : tl.length = n
  iM : M i = some (.lst il)
  ii : il.length = n
  eM : ∃ es, M e = some (.dK es) ∧ EsOk n es ∧ ∀ q : Nat, MmOk M e w ns (m q) (valR es (.inl (q : Int)))
  ti : t ≠ i
  tf : t ≠ fr
  fi : i ≠ fr
/-- all but what it writes stays -/
def FrB (t i e : Addr) (M M' : MH) : Prop := ∀ c u, c ≠ t → c ≠ i → c ≠ e → M c = some u → M' c = some u
theorem FrB.trans {t i e : Addr} {M M1 M2 : MH} (h : FrB t i e M M1) (g : FrB t i e M1 M2) : FrB t i e M M2 := fun c u a b d q => g c u a b d (h c u a b d q)
theorem Dk.sub {M M' : MH} {e a : Addr} {en : NEnv} (h : Dk M e a en) (s : Sub M M') : Dk M' e a en := ⟨h.1, s _ _ h.2⟩
section
variable {C f fr t i e : Addr} {w n : Nat} {ns : List Str} {T : Tld} {tl il : List R} {m : Memo} {M M' : MH}
/-- dicts other than the walk's own stay so: what it holds stays -/
theorem BwSt.keep (h : BwSt C w n ns f fr t i e T tl il m M) {tl' il' : List R} (kd : ∀ c kvs, c ≠ e → M c = some (.dK kvs) → M' c = some (.dK kvs)) (ka : M' f = M f) (kf : M' fr = M fr) (ht : M' t = some (.lst tl')) (hi : M' i = some (.lst il')) (he : M' e = M e) (lt : tl'.length = tl.length) (li : il'.length = il.length) :
    BwSt C w n ns f fr t i e T tl' il' m M' := by
  obtain ⟨fl, f1, f2, f3⟩ := h.F
  obtain ⟨es, e1, e2, e3⟩ := h.eM
  refine ⟨ka.trans h.A, ⟨fl, kf.trans f1, f2, fun q hq => ?_⟩, ht, lt.trans h.tn, hi, li.trans h.ii, ⟨es, he.trans e1, e2, fun q => ?_⟩, h.ti, h.tf, h.fi⟩
  · have := f3 q hq
    cases z : T q with
    | none => rw [z] at this; exact this
    | some en =>
      rw [z] at this
      obtain ⟨a, kvs, a1, a2, a3, a4⟩ := this
      exact ⟨a, kvs, a1, a2, kd a kvs a2 a3, a4⟩
  · have := e3 q
    cases z : valR es (.inl (q : Int)) with
    | none => rw [z] at this; exact this
    | some r =>
      rw [z] at this
      obtain ⟨b, en, b1, b2, b3, b4⟩ := this
      exact ⟨b, en, b1, ⟨b2.1, kd b _ b2.1 b2.2⟩, b3, b4⟩
theorem BwSt.sub (h : BwSt C w n ns f fr t i e T tl il m M) (s : Sub M M') : BwSt C w n ns f fr t i e T tl il m M' := by
  obtain ⟨fl, f1, _⟩ := h.F
  obtain ⟨es, e1, _⟩ := h.eM
  exact h.keep (fun c kvs _ q => s _ _ q) ((s _ _ h.A).trans h.A.symm) ((s _ _ f1).trans f1.symm) (s _ _ h.tM) (s _ _ h.iM) ((s _ _ e1).trans e1.symm) rfl rfl
theorem EsOk.put {es : List (Key × R)} (h : EsOk n es) {q : Nat} (hq : q < n) (r : R) : EsOk n (putR es (.inl (q : Int)) r) := by
  unfold putR
  by_cases z : (es.any fun kv => decide (kv.1 = (.inl (q : Int) : Key))) = true
  · rw [if_pos z]
    have e : (es.map fun kv => if kv.1 = (.inl (q : Int) : Key) then (kv.1, r) else kv).map (·.1) = es.map (·.1) := by
      rw [List.map_map]
      refine List.map_congr_left fun kv _ => ?_
      show (if kv.1 = (.inl (q : Int) : Key) then (kv.1, r) else kv).1 = kv.1
      split <;> rfl
    exact ⟨by rw [e]; exact h.nd, fun k hk => h.lt k (by rw [e] at hk; exact hk)⟩
  · rw [if_neg z]
    refine ⟨?_, fun k hk => ?_⟩
    · rw [List.map_append, List.nodup_append]
      refine ⟨h.nd, by simp, fun x hx y hy e => z ?_⟩
      obtain ⟨kv, h1, h2⟩ := List.mem_map.mp hx
      rw [List.mem_singleton.mp hy] at e
      exact List.any_eq_true.mpr ⟨kv, h1, decide_eq_true (h2.trans e)⟩
    · rw [List.map_append] at hk
      rcases List.mem_append.mp hk with hk | hk
      · exact h.lt k hk
      · exact ⟨q, List.mem_singleton.mp hk, hq⟩
theorem EsOk.len {es : List (Key × R)} (h : EsOk n es) : es.length ≤ n := by
  have s : (es.map (·.1)).length ≤ ((List.range n).map fun q : Nat => (Sum.inl (q : Int) : Key)).length := by
    refine nd_le h.nd fun k hk => ?_
    obtain ⟨q, rfl, hq⟩ := h.lt k hk
    exact List.mem_map.mpr ⟨q, List.mem_range.mpr hq, rfl⟩
  rwa [List.length_map, List.length_map, List.length_range] at s
end
end DL
set_option Elab.async false
set_option linter.all false
set_option maxRecDepth 100000
set_option maxHeartbeats 2000000
set_option autoImplicit false
set_option Elab.async false
set_option linter.all false
set_option maxRecDepth 100000
set_option maxHeartbeats 2000000
set_option autoImplicit false
set_option Elab.async false
set_option linter.all false
set_option maxRecDepth 100000
set_option maxHeartbeats 2000000
set_option autoImplicit false
set_option Elab.async false
set_option linter.all false
set_option maxRecDepth 100000
set_option maxHeartbeats 2000000
set_option autoImplicit false
namespace L2
open PySem PySem.Spec PyProof.Rows
end L2
set_option Elab.async false
set_option linter.all false
set_option maxRecDepth 100000
set_option maxHeartbeats 2000000
set_option autoImplicit false
set_option Elab.async false
set_option linter.all false
set_option maxRecDepth 100000
set_option maxHeartbeats 2000000
set_option autoImplicit false
set_option Elab.async false
set_option linter.all false
set_option maxRecDepth 100000
set_option maxHeartbeats 2000000
set_option Elab.async false
set_option linter.all false
set_option maxRecDepth 100000
set_option maxHeartbeats 2000000
set_option Elab.async false
set_option linter.all false
set_option maxRecDepth 100000
set_option maxHeartbeats 2000000
set_option Elab.async false
set_option linter.all false
set_option maxRecDepth 100000
set_option maxHeartbeats 2000000
set_option autoImplicit false
namespace DL
open PySem PySem.Spec L2
open PyProof.Rows hiding St
/-- an expression by other names -/
def Xp.nm (σ : Str → Str) : Xp → Xp
  | .num n => .num n
  | .cop a => .cop (σ a)
  | .mov u a m => .mov u (σ a) m
  | .pic a b c => .pic (σ a) (σ b) (σ c)
  | .par x a b => .par x (σ a) (σ b)
/-- what goes with new names: S are told by σ, X beside -/
structure SX (σ : Str → Str) (S : List Str) (X : FEnv) : Prop where
  inj : ∀ a ∈ S, ∀ b ∈ S, σ a = σ b → a = b
  off : ∀ a ∈ S, σ a ∉ kyF X
structure KR (σ : Str → Str) (S : List Str) (X : FEnv) (ks ks' : List Str) : Prop where
  nd : ks.Nodup
  nd' : ks'.Nodup
  sb : ∀ a ∈ ks, a ∈ S
  ky : ∀ b, b ∈ ks' ↔ b ∈ ks.map σ ∨ b ∈ kyF X
theorem KR.mem {σ : Str → Str} {S : List Str} {X : FEnv} {ks ks' : List Str} (g : SX σ S X) (h : KR σ S X ks ks') {a : Str} (ha : a ∈ S) : σ a ∈ ks' ↔ a ∈ ks := by
  rw [h.ky]
  refine ⟨fun q => ?_, fun q => .inl (List.mem_map_of_mem q)⟩
  rcases q with q | q
  · obtain ⟨b, hb, e⟩ := List.mem_map.mp q
    rwa [← g.inj b (h.sb b hb) a ha e]
  · exact (g.off a ha q).elim
theorem ndSnoc {ks : List Str} {a : Str} (h : ks.Nodup) (q : a ∉ ks) : (ks ++ [a]).Nodup :=
  List.nodup_append.mpr ⟨h, List.pairwise_singleton _ _, fun x hx y hy => by rw [List.mem_singleton.mp hy]; exact fun z => q (z ▸ hx)⟩
theorem KR.put {σ : Str → Str} {S : List Str} {X : FEnv} {ks ks' : List Str} (g : SX σ S X) (h : KR σ S X ks ks') {a : Str} (ha : a ∈ S) :
    KR σ S X (if a ∈ ks then ks else ks ++ [a]) (if σ a ∈ ks' then ks' else ks' ++ [σ a]) := by
  by_cases q : a ∈ ks
  · rw [if_pos q, if_pos ((h.mem g ha).mpr q)]
    exact h
  · have q' : σ a ∉ ks' := fun z => q ((h.mem g ha).mp z)
    rw [if_neg q, if_neg q']
    refine ⟨ndSnoc h.nd q, ndSnoc h.nd' q', fun b hb => ?_, fun b => ?_⟩
    · rcases List.mem_append.mp hb with z | z
      · exact h.sb b z
      · rw [List.mem_singleton.mp z]; exact ha
    · rw [List.mem_append, List.map_append, List.mem_append, h.ky, List.map_singleton, List.mem_singleton]
      exact ⟨fun z => z.elim (fun z => z.elim (fun z => .inl (.inl z)) .inr) fun z => .inl (.inr z), fun z => z.elim (fun z => z.elim (fun z => .inl (.inl z)) .inr) fun z => .inl (.inr z)⟩
/-- facts, and the same told otherwise -/
structure ER (σ : Str → Str) (S : List Str) (X : FEnv) (e e' : FEnv) : Prop where
  k : KR σ S X (kyF e) (kyF e')
  lk : ∀ a ∈ S, lkF e' (σ a) = lkF e a
  lx : ∀ b ∈ kyF X, lkF e' b = lkF X b
section
variable {σ : Str → Str} {S : List Str} {X : FEnv}
theorem ER.pt (g : SX σ S X) {e e' : FEnv} (h : ER σ S X e e') {a : Str} (ha : a ∈ S) (f : F2) : ER σ S X (ptF e a f) (ptF e' (σ a) f) := by
  refine ⟨by rw [ky_pt, ky_pt]; exact h.k.put g ha, fun b hb => ?_, fun b hb => ?_⟩
  · rw [lk_pt, lk_pt]
    by_cases q : b = a
    · rw [if_pos q, if_pos (by rw [q])]
    · rw [if_neg q, if_neg fun z => q (g.inj b hb a ha z)]
      exact h.lk b hb
  · rw [lk_pt, if_neg fun z => g.off a ha (by rw [← z]; exact hb)]
    exact h.lx b hb
theorem ER.join (g : SX σ S X) {ks ks' : List Str} (k : KR σ S X ks ks') {e e' f f' : FEnv} (h : ER σ S X e e') (h' : ER σ S X f f') : ER σ S X (joinF ks e f) (joinF ks' e' f') := by
  refine ⟨by rw [ky_join, ky_join]; exact k, fun b hb => ?_, fun b hb => ?_⟩
  · rw [lk_join, lk_join]
    by_cases q : b ∈ ks
    · rw [if_pos q, if_pos ((k.mem g hb).mpr q), h.lk b hb, h'.lk b hb]
    · rw [if_neg q, if_neg fun z => q ((k.mem g hb).mp z)]
  · rw [lk_join, if_pos ((k.ky b).mpr (.inr hb)), h.lx b hb, h'.lx b hb, common_self]
theorem envx : ∀ {e f : FEnv}, kyF e = kyF f → (kyF e).Nodup → (∀ a ∈ kyF e, lkF e a = lkF f a) → e = f
  | [], [], _, _, _ => rfl
  | [], _ :: _, h, _, _ => by cases h
  | _ :: _, [], h, _, _ => by cases h
  | (a, u) :: e, (b, v) :: f, h, n, l => by
    unfold kyF at h n l
    rw [List.map_cons, List.map_cons] at h
    rw [List.map_cons] at n l
    obtain ⟨h1, h2⟩ := List.cons.inj h
    have h1 : a = b := h1
    subst h1
    obtain ⟨n1, n2⟩ := List.nodup_cons.mp n
    have e1 := l a List.mem_cons_self
    rw [lkF, lkF, if_pos rfl, if_pos rfl] at e1
    have e1 : u = v := e1
    subst e1
    rw [envx (e := e) (f := f) h2 n2 fun c hc => by
      have := l c (List.mem_cons_of_mem _ hc)
      have na : a ≠ c := fun z => n1 (by rw [z]; exact hc)
      rwa [lkF, lkF, if_neg na, if_neg na] at this]
/-- what stays, stays told otherwise -/
theorem ER.stop (g : SX σ S X) {b b' c c' : FEnv} (h : ER σ S X b b') (h' : ER σ S X c c') (k : kyF c = kyF b) (k' : kyF c' = kyF b') : c = b ↔ c' = b' := by
  constructor
  · intro e
    refine envx k' (by rw [k']; exact h.k.nd') fun a ha => ?_
    rw [k'] at ha
    rcases (h.k.ky a).mp ha with z | z
    · obtain ⟨d, hd, rfl⟩ := List.mem_map.mp z
      rw [h'.lk d (h.k.sb d hd), h.lk d (h.k.sb d hd), e]
    · rw [h'.lx a z, h.lx a z]
  · intro e
    refine envx k (by rw [k]; exact h.k.nd) fun a ha => ?_
    rw [k] at ha
    have hs := h.k.sb a ha
    rw [← h'.lk a hs, ← h.lk a hs, e]
end
end DL
set_option Elab.async false
set_option linter.all false
set_option maxRecDepth 100000
set_option maxHeartbeats 2000000
set_option Elab.async false
set_option linter.all false
set_option maxRecDepth 100000
set_option maxHeartbeats 2000000
set_option autoImplicit false
namespace DL
open PySem PySem.Spec L2
open PyProof.Rows hiding St
mutual
def Rw.nm (σ : Str → Str) : Rw → Rw
  | .set a e => .set (σ a) (e.nm σ)
  | .tell a => .tell (σ a)
  | .iff a p q => .iff (σ a) (Rw.nml σ p) (Rw.nml σ q)
  | .rnd n p => .rnd n (Rw.nml σ p)
def Rw.nml (σ : Str → Str) : List Rw → List Rw
  | [] => []
  | x :: xs => x.nm σ :: Rw.nml σ xs
end
end DL
set_option Elab.async false
set_option linter.all false
set_option maxRecDepth 100000
set_option maxHeartbeats 2000000
set_option Elab.async false
set_option linter.all false
set_option maxRecDepth 100000
set_option maxHeartbeats 2000000
set_option Elab.async false
set_option linter.all false
set_option maxRecDepth 100000
set_option maxHeartbeats 2000000
namespace DL
open PySem PySem.Spec L2
open PyProof.Rows hiding St
mutual
def R.cl : R → Bool
  | .non => true
  | .int _ => true
  | .str _ => true
  | .tup rs => R.cls rs
  | .lst rs => R.cls rs
  | _ => false
def R.cls : List R → Bool
  | [] => true
  | r :: rs => r.cl && R.cls rs
end
end DL
set_option Elab.async false
set_option linter.all false
set_option maxRecDepth 100000
set_option maxHeartbeats 2000000
set_option Elab.async false
set_option linter.all false
set_option maxRecDepth 100000
set_option maxHeartbeats 2000000
namespace DL
open PySem PySem.Spec L2
open PyProof.Rows hiding St
section
variable {X : Cx} {pins : List (Addr × Obj)} {σ : L2.St} {H : Hp} {sI s s' : Shared} {B : Heap} {a : Addr} {cls : Value} {d : Option Addr} {oe : Obj} {vs : Array Value}
theorem exk_ok {P : Program} {w : World} {h : Heap} {G : Hp} (e : h.get? a = some oe) (z : Zc cls d oe) (f : oe.data = .fields vs) : ObjOk P w G h a (exk a cls d) :=
  ⟨⟨oe, vs, e, z, f⟩, ⟨oe, e⟩, fun _ _ ⟨o, v, q, r⟩ k => ⟨o, v, k o q, r⟩⟩
/-- an expression that makes an exception, its value held -/
theorem pe_made {e : Expr} {t : L2.St → Hp → XK → Prop} (h : PMk X e t) : PE X e (fun σ H Q => t σ H fun cls d H' => ∀ a, H' a = none → Q (.ref a) (upd H' a (exk a cls d))) := by
  constructor
  intro pins s σ H Q I ht
  refine thn (h pins s σ H _ I ht) fun u s2 hu => ?_
  obtain ⟨b, ob, ws, sJ, H2, c2, d2, rfl, J, k, nb, eb, zb, fb, _, na, os, ag, _, q⟩ := hu
  exact ⟨.ref b, _, J.call' (ch := []) os (Un.laidN k nb na) (J.hok.laidN k na (exk_ok eb zb fb)) ag (fun _ z => nomatch z), rfl, q b na⟩
/-- the state behind a catch: the exception is tracked -/
theorem landE (I : Inv X pins σ H sI) (nb : ∀ b o, sI.heap.get? b = some o → b ∉ frs X.stack → B.get? b = some o) (st : B.StaysIn s'.heap) (up : sI.heap.UpToSlots s'.heap) (os : s'.os = sI.os) (ag : AllBare s'.gens)
    (hB : B.get? a = none) (nf : a ∉ frs X.stack) (na : H a = none) (e : s'.heap.get? a = some oe) (z : Zc cls d oe) (f : oe.data = .fields vs) : Inv X pins σ (upd H a (exk a cls d)) s' := by
  have J := I.landed nb st up os ag
  have hne : ∀ {b : Addr} {o : Obj}, sI.heap.get? b = some o → b ≠ a := fun {b o} q y => by
    subst y
    have := nb _ o q nf
    rw [hB] at this
    cases this
  refine I.call' (ch := []) os ⟨fun b o q _ hb _ => st b o (nb b o q hb), fun b o q _ hb _ => ?_, fun b o q n _ => by rw [upd_ne (hne q)]; exact n, fun b o q _ => ?_, fun b xs q => by rw [upd_ne (ne_of_none q na)]; exact q,
    fun b o xs q => by rw [upd_ne (ne_of_none q na)]; exact q, fun b ps q => ⟨#[], by rw [upd_ne (ne_of_none q na), q]; simp⟩⟩ (J.hok.laidN (fun _ _ q => q) na (exk_ok e z f)) ag (fun _ y => nomatch y)
  · obtain ⟨_, o1, q1, hd⟩ := I.stack.mem hb
    rw [q] at q1
    cases q1
    exact up b o q hd
  · by_cases hb : b ∈ frs X.stack
    · obtain ⟨_, o1, q1, hd⟩ := I.stack.mem hb
      rw [q] at q1
      cases q1
      obtain ⟨sl, r⟩ := up b o q hd
      exact ⟨_, r⟩
    · exact ⟨o, st b o (nb b o q hb)⟩
theorem toSuite (I : Inv X pins σ H s) (b : Addr) : Inv (X.suite b (X.pn ++ pins)) [] σ H s :=
  ⟨I.ok.suite b (X.pn ++ pins), I.os, I.bare, I.base, I.loc, I.cell, I.free, I.freeC, fun p hp => I.pin p (by rw [List.append_nil] at hp; exact hp), I.hok, I.len⟩
theorem ofSuite {b : Addr} (I : Inv (X.suite b (X.pn ++ pins)) [] σ H s) (ok : X.Ok) : Inv X pins σ H s :=
  ⟨ok, I.os, I.bare, I.base, I.loc, I.cell, I.free, I.freeC, fun p hp => I.pin p (by rw [List.append_nil]; exact hp), I.hok, I.len⟩
/-- what follows behind the suite: its name is gone -/
def goneE (i : Nat) (D : Ends) : Ends := ⟨fun σ H => D.nx (σ.set i none) H, D.rt, fun σ H => D.bk (σ.set i none) H, fun σ H => D.ct (σ.set i none) H⟩
theorem try_hold {x n : Str} {c : Value} {i : Nat} {body su : List Stmt} {b₀ : Stmt} {np pos pos' : Pos} {D : Ends} (hs : X.stack = X.env :: X.outer) (hf : X.env.frame = some X.env.locals) (hN : X.N.Nodup) (hi : X.N[i]? = some n)
    (hl : X.env.kindOf n = some .local) (hc : Names X x c) (I : Inv X pins σ H s) (W2 : WX)
    (hW : ∀ cls d σ2 H2, W2 cls d σ2 H2 → PySem.W.exmOne X.K cls c = some true ∧ ∀ a, H2 a = none → ∀ s1, Inv (X.suite a (X.pn ++ pins)) [] (σ2.set i (some (.ref a))) (upd H2 a (exk a cls d)) s1 →
      wpAny (model X.prog X.w) (X.A.mark (some (.ref a))) (execs (b₀ :: su) X.env) (SP (X.suite a (X.pn ++ pins)) [] (goneE i D)) (fun _ _ => False) s1)
    (hb : ∀ xe, Takes (X.tr (X.pn ++ pins) xe) W2 → PassesOwn (model X.prog X.w) X.A X.env xe → wpAny (model X.prog X.w) X.A (execs body X.env) (SP (X.tr (X.pn ++ pins) xe) [] D) xe s) :
    wpAny (model X.prog X.w) X.A (exec (.Try body [.ExceptHandler (some (.Name x np)) (some n) (b₀ :: su) pos'] [] [] pos) X.env) (SP X pins D) X.xe s := by
  have ok := I.ok
  have fr2 : X.A.frames = some (X.env :: X.outer) := ok.frames.trans (congrArg some hs)
  have catch_ : Takes (X.tr (X.pn ++ pins) (fun u s1 => wpAny (model X.prog X.w) X.A (noteFrame u X.env) (fun _ s2 => wpAny (model X.prog X.w) X.A (setFlight u none) (fun _ s3 =>
      wpAny (model X.prog X.w) X.A (handleBy u X.env [.ExceptHandler (some (.Name x np)) (some n) (b₀ :: su) pos']) (SP X pins D) X.xe s3) X.xe s2) X.xe s1)) W2 := by
    intro u s2 air
    obtain ⟨b, G, s0, pins2, σ2, H2, c2, d2, rfl, J0, nb, up, sky, na, os, ag, w2⟩ := air
    have J := J0.ofTry ok
    obtain ⟨hm, run⟩ := hW _ _ _ _ w2
    have sky2 : Sky G (X.env :: X.outer) b (Zc c2 d2) X.env.locals s2.heap := hs ▸ sky
    show wpAny (model X.prog X.w) X.A (noteFrame (.ref b) X.env) _ _ _
    refine Sky.land Zc.steady fr2 hf sky2 fun h1 f1 up1 => ?_
    have J1 : Inv X pins σ2 H2 { s2 with heap := h1 } := J.landed nb f1.1 (up.trans up1) os ag
    have S1 := toSuite J1 b
    obtain ⟨o1, v1, e1, z1, q1⟩ := f1.there
    have nfr : b ∉ frs X.stack := fun hb => by
      rw [hs] at hb
      obtain ⟨_, o2, e2, nd⟩ := f1.2.2.1.mem hb
      rw [e1] at e2
      cases e2
      exact nd _ q1
    refine wpAny_handleBy_cons (codeAny_handlers_test ?_) (fun y => nomatch y)
    have look : PySem.W.Looks (model X.prog X.w) h1 (excMatches (.ref b) c) true := PySem.W.exm_one J1.kIn (fun A Q E s k q => wpAny_typeOf_ref (k _ _ e1) (by rw [z1.1]; exact q)) hm
    have named : ∀ {Q : Value → Shared → Prop} {E : Value → Shared → Prop}, Q c { s2 with heap := h1 } → wpAny (model X.prog X.w) (X.A.mark (some (.ref b))) (eval (.Name x np) X.env) Q E { s2 with heap := h1 } := by
      intro Q E q
      obtain ⟨g1, g2, g3 | ⟨g3, g4, g5⟩⟩ := hc
      · exact ld_glob S1 g1 g3 q g2
      · exact ld_blt S1 g1 g3 g4 q g5 g2
    refine named (look.here (codeAny_handlers_suite_as (HandSPX.lands_againZ f1 fun h4 f4 up4 => ?_)))
    obtain ⟨o4, v4, e4, z4, q4⟩ := f4.there
    have J4 : Inv X pins σ2 (upd H2 b (exk b c2 d2)) { s2 with heap := h4 } := landE J nb f4.1 ((up.trans up1).trans up4) os ag f4.2.1 nfr na e4 z4 q4
    refine store_ok (X := X.suite b (X.pn ++ pins)) (v := .ref b) (toSuite J4 b) hN hi (.inl hl) rfl (fun s5 S5 => ?_) (.inr hl)
    refine wpAny_mono (run b na s5 S5) (fun f s6 hsp => ?_) (fun _ _ y => y.elim)
    have over : ∀ {σ6 : L2.St} {H6 : Hp} {Q : Shared → Prop}, Inv (X.suite b (X.pn ++ pins)) [] σ6 H6 s6 → (∀ s7, Inv X pins (σ6.set i none) H6 s7 → Q s7) →
        wpAny (model X.prog X.w) X.A (do bindName X.env n .none; unbindBehindTheSuite X.env n pos') (fun _ s7 => Q s7) X.xe s6 := fun S q => gone_ok (ofSuite S ok) hN hi hl q
    cases f with
    | ret u => obtain ⟨v6, σ6, H6, S6, r6, q6⟩ := hsp; exact over S6 fun s7 K7 => ⟨v6, _, H6, K7, r6, q6⟩
    | next => obtain ⟨σ6, H6, S6, q6⟩ := hsp; exact over S6 fun s7 K7 => ⟨_, H6, K7, q6⟩
    | brk => obtain ⟨σ6, H6, S6, q6⟩ := hsp; exact over S6 fun s7 K7 => ⟨_, H6, K7, q6⟩
    | cont => obtain ⟨σ6, H6, S6, q6⟩ := hsp; exact over S6 fun s7 K7 => ⟨_, H6, K7, q6⟩
  refine wpAny_Try_except (wpAny_mono (hb _ catch_ PassesOwn.looking) (fun f s1 hsp => ?_) fun _ _ y => y)
  cases f with
  | next => obtain ⟨σ6, H6, S6, q6⟩ := hsp; exact wpAny_execs_nil ⟨σ6, H6, S6.ofTry ok, q6⟩
  | ret u => obtain ⟨v6, σ6, H6, S6, r6, q6⟩ := hsp; exact ⟨v6, σ6, H6, S6.ofTry ok, r6, q6⟩
  | brk => obtain ⟨σ6, H6, S6, q6⟩ := hsp; exact ⟨σ6, H6, S6.ofTry ok, q6⟩
  | cont => obtain ⟨σ6, H6, S6, q6⟩ := hsp; exact ⟨σ6, H6, S6.ofTry ok, q6⟩
end
def exR (cls : Value) : Option (List (Str × R)) → R
  | none => .ex cls [] []
  | some fs => .ex cls (fs.map (·.1)) (fs.map (·.2))
theorem krv_parts {K : PySem.W.Frag} {J : Jp} : ∀ {fs : List (Str × R)} {ws : List (Str × V)}, KRV K J fs ws → ws = (fs.map (·.1)).zip (ws.map (·.2)) ∧ (fs.map (·.1)).length = (ws.map (·.2)).length ∧ RVs K J (fs.map (·.2)) (ws.map (·.2))
  | _, _, .nil => ⟨rfl, rfl, .nil⟩
  | (f, r) :: fs, (g, v) :: ws, .cons ⟨e, h⟩ t => by
    obtain ⟨i1, i2, i3⟩ := krv_parts t
    have e2 : f = g := e
    subst e2
    refine ⟨?_, by simpa using i2, .cons h i3⟩
    show (f, v) :: ws = (f, v) :: (fs.map (·.1)).zip (ws.map (·.2))
    rw [← i1]
theorem exR_rv {K : PySem.W.Frag} {J : Jp} {H : Hp} {M : MH} {a : Addr} {cls : Value} {d : Option Addr} {fs : Option (List (Str × R))} (D : DSt K J H M) (na : H a = none) (x : XD K J H d fs) : RV K (J.put a (exk a cls d)) (exR cls fs) (.ref a) := by
  have e : Ex J (J.put a (exk a cls d)) := Ex.new (D.jnone na)
  cases d with
  | none =>
    cases fs with
    | none => exact .ex (d := none) (upd_same) ⟨rfl, rfl⟩ .nil
    | some fs => exact x.elim
  | some d =>
    cases fs with
    | none => exact x.elim
    | some fs =>
      obtain ⟨ws, h1, h2⟩ := x
      obtain ⟨i1, i2, i3⟩ := krv_parts h2
      exact .ex (d := some d) (upd_same) ⟨by rw [← i1]; exact e.1 _ _ h1, i2⟩ (i3.mono e)
def DEnds.wx (D : DEnds) (f : Value → Option (List (Str × R)) → G → MH → Prop) : DEnds := ⟨D.nx, D.rt, f, D.bk, D.ct⟩
def DEnds.gone (D : DEnds) (i : Nat) : DEnds := ⟨fun g M => D.nx (g.set i none) M, D.rt, fun _ _ _ _ => False, fun g M => D.bk (g.set i none) M, fun g M => D.ct (g.set i none) M⟩
/-- try: b, except c as the name at i: su -/
def sTry (K : PySem.W.Frag) (c : Value) (i : Nat) (b su : WS) : WS := fun D g M => b (D.wx fun cls fs g2 M2 => PySem.W.exmOne K cls c = some true ∧ su (D.gone i) (g2.set i (some (exR cls fs))) M2) g M
section
variable {X : Cx} {W : WW} {pos : Pos}
theorem ds_try (i : Nat) {x n : Str} {c : Value} {body su : List Stmt} {b₀ : Stmt} {np pos' : Pos} {b sw : WS} (hs : X.stack = X.env :: X.outer) (hf : X.env.frame = some X.env.locals) (hN : X.N.Nodup) (hm : X.mg x = some c)
    (hb : ∀ (W2 : WW) (pn : List (Addr × Obj)) (xe : Value → Shared → Prop), Takes (X.tr pn xe) W2 → PassesOwn (model X.prog X.w) X.A X.env xe → DSs (X.tr pn xe) W2 body b)
    (hsu : ∀ (a : Addr) (pn : List (Addr × Obj)), DSs (X.suite a pn) (fun _ _ _ _ => False) (b₀ :: su) sw) (hi : X.N[i]? = some n := by rfl) (hl : X.env.kindOf n = some .local := by rfl)
    (hg : Gl X x := by rfl) (hdb : (x == ("__debug__" : Str)) = false := by decide) :
    DS X W (.Try body [.ExceptHandler (some (.Name x np)) (some n) (b₀ :: su) pos'] [] [] pos) (sTry X.K c i b sw) := by
  refine ⟨fun E σ H => ∃ J g M D, DSt X.K J H M ∧ RG X.K J g σ ∧ sTry X.K c i b sw D g M ∧ Conts X.K J D W E, ⟨fun pins s σ H E I h => ?_⟩, fun J H σ g M D E d rg h ct => ⟨J, g, M, D, d, rg, h, ct⟩⟩
  obtain ⟨J, g, M, D, d, rg, h, ct⟩ := h
  refine try_hold hs hf hN hi hl ⟨hg, hdb, .inl hm⟩ I
    (fun cls dd σ2 H2 => ∃ J1 fs g1 M1, PySem.W.exmOne X.K cls c = some true ∧ sw (D.gone i) (g1.set i (some (exR cls fs))) M1 ∧ Ex J J1 ∧ DSt X.K J1 H2 M1 ∧ RG X.K J1 g1 σ2 ∧ XD X.K J1 H2 dd fs) ?_ ?_
  · rintro cls dd σ2 H2 ⟨J1, fs, g1, M1, h1, h2, e1, d1, rg1, x1⟩
    refine ⟨h1, fun a na s1 I1 => ?_⟩
    obtain ⟨ts, ps, ss⟩ := hsu a (X.pn ++ pins)
    have e2 : Ex J1 (J1.put a (exk a cls dd)) := Ex.new (d1.jnone na)
    have e3 := e1.trans e2
    refine ps.run [] s1 _ _ (goneE i E) I1 (ss (J1.put a (exk a cls dd)) _ _ _ M1 (D.gone i) (goneE i E) (d1.new na) ((rg1.mono e2).set i (exR_rv d1 na x1)) h2 ⟨?_, ?_, ?_, ?_, ?_⟩)
    · exact fun g6 σ6 J6 H6 M6 p e d6 r6 => ct.nx _ _ J6 H6 M6 p (e3.trans e) d6 (r6.wipe [i])
    · exact ct.rt.mono e3
    · exact fun g6 σ6 J6 H6 M6 p e d6 r6 => ct.bk _ _ J6 H6 M6 p (e3.trans e) d6 (r6.wipe [i])
    · exact fun g6 σ6 J6 H6 M6 p e d6 r6 => ct.ct _ _ J6 H6 M6 p (e3.trans e) d6 (r6.wipe [i])
    · exact fun _ _ _ _ _ _ _ _ z => z.elim
  · intro xe tk po
    obtain ⟨tb, pb, sb⟩ := hb _ (X.pn ++ pins) xe tk po
    exact pb.run [] s σ H E (I.toTry _) (sb J H σ g M _ E d rg h ⟨ct.nx, ct.rt, ct.bk, ct.ct, fun cls fs dd g1 σ1 J1 H1 M1 p e d1 rg1 x => ⟨J1, fs, g1, M1, p.1, p.2, e, d1, rg1, x⟩⟩)
end
end DL
set_option Elab.async false
set_option linter.all false
set_option maxRecDepth 100000
set_option maxHeartbeats 2000000
namespace DL
open PySem PySem.Spec L2
open PyProof.Rows hiding St
def DictAt (H : Hp) (d : Option Addr) : Prop := ∀ dx, d = some dx → ∃ fs, H dx = some (.xd fs)
theorem exk_at {P : Program} {w : World} {H : Hp} {h : Heap} {a C : Addr} {d : Option Addr} (hok : HOk P w H h) (e : H a = some (exk a (.ref C) d)) (hd : DictAt H d) : ∃ oe od, PySem.W.InstAt h a oe C od ∧ oe.dict = d ∧ (∀ dx fs, d = some dx → H dx = some (.xd fs) → ∃ mA : Str → Option Value, (∀ f, RelO (fs.lookup f) (mA f)) ∧ ∃ o, od = some o ∧ ∀ n, PySem.W.lookIn n o = some (mA n)) := by
  have x : ObjOk P w H h a (exk a (.ref C) d) := hok a _ e
  obtain ⟨⟨oe, vs, e1, z1, f1⟩, _⟩ := x
  cases d with
  | none => exact ⟨oe, none, ⟨e1, z1.1, by unfold PySem.W.notCls; rw [f1] <;> rfl, by rw [z1.2]; trivial⟩, z1.2, fun dx fs y => nomatch y⟩
  | some dx =>
    obtain ⟨fs, hf⟩ := hd dx rfl
    have x2 : ObjOk P w H h dx (.xd fs) := hok dx _ hf
    obtain ⟨mA, hns, r⟩ := x2
    obtain ⟨od, ho, hl⟩ := lookIn_ns hns
    refine ⟨oe, some od, ⟨e1, z1.1, by unfold PySem.W.notCls; rw [f1] <;> rfl, by rw [z1.2]; exact ho⟩, z1.2, fun dx2 fs2 y1 y2 => ?_⟩
    cases y1
    rw [hf] at y2
    cases y2
    exact ⟨mA, r, od, rfl, hl⟩
/-- what a class argument is: one class, or a tuple of them -/
def ClsArg (K : PySem.W.Frag) (H : Hp) (t : Value) (c : V) (b : Bool) : Prop :=
  (∃ cv, (∀ u, RelV c u → u = cv) ∧ PySem.W.kitOne K t cv = some b) ∨ ∃ (tp : Addr) (bs : List Addr), c = .ref tp ∧ SqT K H tp (bs.map V.ref) ∧ PySem.W.kitAny K t (bs.map Value.ref) = some b
def rIsX (K : PySem.W.Frag) : List V → Hp → VK → Prop := fun xs H Q => ∃ (c : V) (b : Bool), Q (.bl b) H ∧
  ((∃ a C d, xs = [.ref a, c] ∧ XcOk K C ∧ H a = some (exk a (.ref C) d) ∧ DictAt H d ∧ ClsArg K H (.ref C) c b) ∨ (xs = [.non, c] ∧ ClsArg K H (.type "NoneType") c b))
theorem isi_arg {X : Cx} {pins : List (Addr × Obj)} {σ : L2.St} {H : Hp} {s : Shared} {x t : Value} {S : Heap → Prop} {c : V} {cu : Value} {b : Bool} {Q : Value → Shared → Prop} (Z : PySem.W.KitX X.K x t S) (I : Inv X pins σ H s) (p : S s.heap) (h : ClsArg X.K H t c b) (r : RelV c cu)
    (hx : x ≠ .builtin "__main__.__loader__#opaque") (q : ∀ tk, Q (.bool b) { s with toks := tk }) : wpAny (model X.prog X.w) X.A (call (.builtin "isinstance") [x, cu]) Q X.xe s := by
  rcases h with ⟨cv, h1, h2⟩ | ⟨tp, bs, rfl, h1, h2⟩
  · have e := h1 _ r
    subst e
    exact PySem.W.kia_one Z I.kIn p h2 hx q
  · obtain rfl : cu = Value.ref tp := r
    obtain ⟨its, rv, ⟨o, ho, hc, n, hd⟩, _⟩ := I.tuple h1
    have e := refs_vals rv
    subst e
    obtain ⟨oc, od, oda, osl⟩ := o
    dsimp only at hc hd
    subst hc hd
    exact PySem.W.kia_tup Z I.kIn p ho h2 hx q
theorem call_isX {X : Cx} : CallR X (.builtin "isinstance") (rIsX X.K) := by
  intro pins s σ H xs us Q I r h
  obtain ⟨c, b, q, ⟨a, C, d, rfl, T, e, hd, hc⟩ | ⟨rfl, hc⟩⟩ := h
  · cases r with
    | cons rx rr =>
      cases rr with
      | cons rt rr =>
        cases rr
        cases rx
        obtain ⟨oe, od, J, _, _⟩ := exk_at I.hok e hd
        exact isi_arg (PySem.W.kitx_exc (ox := oe) (od := od) T.hcl T.ga T.gg T.sb T.ac T.sp T.tk T.mo) I J hc rt (fun z => nomatch z) fun tk => ⟨.bl b, H, I.kept (t' := tk) fun _ _ z => z, rfl, q⟩
  · cases r with
    | cons rx rr =>
      cases rr with
      | cons rt rr =>
        cases rr
        cases rx
        exact isi_arg PySem.W.kitx_none I trivial hc rt (fun z => nomatch z) fun tk => ⟨.bl b, H, I.kept (t' := tk) fun _ _ z => z, rfl, q⟩
/-- the classes of an argument, as data -/
def ClsR (K : PySem.W.Frag) (t : Value) (c : R) (b : Bool) : Prop := match c with
  | .o C => PySem.W.kitOne K t (.ref C) = some b
  | .ty T => PySem.W.kitOne K t (.type T.nm) = some b
  | .tup rs => ∃ bs : List Addr, rs = bs.map R.o ∧ PySem.W.kitAny K t (bs.map Value.ref) = some b
  | _ => False
def fIsX (K : PySem.W.Frag) : DC := fun xs M P => match xs with
  | [.ex cls _ _, c] => ∃ C b, cls = .ref C ∧ XcOk K C ∧ ClsR K cls c b ∧ P (.bl b) M
  | [.non, c] => ∃ b, ClsR K (.type "NoneType") c b ∧ P (.bl b) M
  | _ => False
section
variable {K : PySem.W.Frag}
theorem os_rv {J : Jp} : ∀ {bs : List Addr} {vs : List V}, RVs K J (bs.map R.o) vs → vs = bs.map V.ref
  | [], _, .nil => rfl
  | _ :: _, _, .cons a t => by
    cases a
    rw [os_rv t]; rfl
theorem clsR_arg {J : Jp} {H : Hp} {M : MH} {t : Value} {c : R} {v : V} {b : Bool} (d : DSt K J H M) (r : RV K J c v) (h : ClsR K t c b) : ClsArg K H t v b := by
  cases r with
  | o C => exact .inl ⟨.ref C, fun u y => y, h⟩
  | ty T => exact .inl ⟨.type T.nm, fun u y => y, h⟩
  | tup h1 h2 =>
    obtain ⟨bs, rfl, h3⟩ := h
    have := os_rv h2
    subst this
    exact .inr ⟨_, bs, rfl, d.ex.sqT h1, h3⟩
  | _ => exact h.elim
theorem ex_dict {J : Jp} {H : Hp} {M : MH} {dd : Option Addr} {ns : List Str} {vs : List V} (d : DSt K J H M) (x : ExAt J.j dd ns vs) : DictAt H dd := fun dx y => by
  subst y
  exact ⟨_, d.ex _ _ x.1⟩
theorem sc_isX : SimCall K (rIsX K) (fIsX K) := by
  intro J H M rs vs P Q d rv h c
  unfold fIsX at h
  split at h
  · obtain ⟨v, u, rfl, r1, r2⟩ := pair_of rv
    obtain ⟨C, b, e, T, hc, p⟩ := h
    cases r1 with
    | ex e1 e2 _ =>
      subst e
      exact ⟨u, b, c _ _ J H M p Ex.rfl' d (.bl _), .inl ⟨_, C, _, rfl, T, d.ex _ _ e1, ex_dict d e2, clsR_arg d r2 hc⟩⟩
  · obtain ⟨v, u, rfl, r1, r2⟩ := pair_of rv
    obtain ⟨b, hc, p⟩ := h
    cases r1
    exact ⟨u, b, c _ _ J H M p Ex.rfl' d (.bl _), .inr ⟨rfl, clsR_arg d r2 hc⟩⟩
  · exact h.elim
end
def exGet (ns : List Str) (rs : List R) (f : Str) : Option R := (ns.zip rs).lookup f
def wXf (K : PySem.W.Frag) (f : Str) (we : WE) : WE := fun g M P xw => we g M (fun r M1 => match r with
  | .ex cls ns rs => ∃ C q, cls = .ref C ∧ XcOk K C ∧ PySem.W.findIn K (.ref C) f = some none ∧ exGet ns rs f = some q ∧ P q M1
  | _ => False) xw
theorem exGet_rv {K : PySem.W.Frag} {J : Jp} {f : Str} {q : R} : ∀ {ns : List Str} {rs : List R} {vs : List V}, RVs K J rs vs → exGet ns rs f = some q → ∃ v, (ns.zip vs).lookup f = some v ∧ RV K J q v
  | [], _, _, _, e => by cases e
  | _ :: _, _, _, .nil, e => by cases e
  | n :: ns, r :: rs, v :: vs, .cons h t, e => by
    have e2 : List.lookup f ((n, r) :: ns.zip rs) = some q := e
    show ∃ u, List.lookup f ((n, v) :: ns.zip vs) = some u ∧ RV K J q u
    rw [List.lookup_cons] at e2 ⊢
    split at e2
    · cases e2; exact ⟨v, rfl, h⟩
    · exact exGet_rv t e2
def tXg (K : PySem.W.Frag) (f : Str) (te : TE) : TE := fun σ H Q => te σ H fun x H1 => ∃ (a C : Addr) (dd : Addr) (fs : List (Str × V)) (v : V), x = .ref a ∧ XcOk K C ∧ PySem.W.findIn K (.ref C) f = some none ∧ H1 a = some (exk a (.ref C) (some dd)) ∧ H1 dd = some (.xd fs) ∧ fs.lookup f = some v ∧ Q v H1
section
variable {X : Cx} {W : WW} {pos : Pos}
theorem pe_xg {e : Expr} {te : TE} {f : Str} (he : PE X e te) (hb : attributeBase e f X.env (eval e X.env) = eval e X.env := by rfl) : PE X (.Attribute e f pos) (tXg X.K f te) := by
  refine ⟨fun pins s σ H Q I h => attr_of hb (thn (he.run pins s σ H _ I h) ?_)⟩
  rintro u s2 ⟨x, H1, I1, rx, a, C, dd, fs, v, rfl, T, hno, ea, ed, l, q⟩
  obtain rfl : u = Value.ref a := rx
  obtain ⟨oe, od, J, _, hm⟩ := exk_at I1.hok ea (fun dx y => by cases y; exact ⟨fs, ed⟩)
  obtain ⟨mA, hr, o, rfl, hl⟩ := hm dd fs rfl ed
  obtain ⟨w, hw, rw_⟩ := RelO.some_of (v := v) (o := mA f) (by rw [← l]; exact hr f)
  exact HandSPX.exc_get I1.kIn J T.ga T.gg T.sb (PySem.W.findObj_own T.hd hno rfl (by rw [hl, hw])) (handed_of rw_) ⟨v, H1, I1.tok _, rw_, q⟩
theorem de_xf {K0 : PySem.W.Frag} {e : Expr} {we : WE} {f : Str} (he : DE X W e we) (hk : X.K = K0 := by rfl) (hb : attributeBase e f X.env (eval e X.env) = eval e X.env := by rfl) : DE X W (.Attribute e f pos) (wXf K0 f we) := by
  subst hk
  obtain ⟨te, pe, se⟩ := he
  refine ⟨_, pe_xg pe hb, fun J H σ g M P xw Q d rg h c cx => se J H σ g M _ xw _ d rg h (fun r v J1 H1 M1 p1 e1 d1 r1 => ?_) cx⟩
  split at p1
  · obtain ⟨C, q, rfl, T, hno, hq, p⟩ := p1
    cases r1 with
    | ex h1 h2 h3 =>
      rename_i a d0 vs
      obtain ⟨v, hv, rv⟩ := exGet_rv h3 hq
      cases d0 with
      | none =>
        obtain ⟨z1, z2⟩ := h2
        subst z1
        cases hv
      | some dd => exact ⟨a, C, dd, _, v, rfl, T, hno, d1.ex _ _ h1, d1.ex _ _ h2.1, hv, c _ _ J1 H1 M1 p e1 d1 rv⟩
  · exact p1.elim
end
end DL
set_option Elab.async false
set_option linter.all false
set_option maxRecDepth 100000
set_option maxHeartbeats 2000000
namespace DL
open PySem PySem.Spec L2
open PyProof.Rows hiding St
def textV (v : V) : Prop := (∃ i : Int, v = .int i ∧ i.natAbs < 2 ^ 128) ∨ ∃ x : Str, v = .str x ∧ x.length ≤ 200
def textR : R → Prop
  | .int i => i.natAbs < 2 ^ 128
  | .str x => x.length ≤ 200
  | _ => False
theorem textR_v {K : PySem.W.Frag} {J : Jp} {r : R} {v : V} (h : RV K J r v) (t : textR r) : textV v := by
  cases h with
  | int i => exact .inl ⟨i, rfl, t⟩
  | str x => exact .inr ⟨x, rfl, t⟩
  | _ => exact t.elim
def rStrU : List V → Hp → VK → Prop := fun xs H Q => (∃ i, xs = [.int i] ∧ i.natAbs.log2 < 1920 ∧ Q (.str (toString i)) H) ∨ ∃ a, xs = [.str a] ∧ Q (.str a) H
theorem call_strU {X : Cx} : CallR X (.type "str") rStrU := CallR.or call_str_int SkE.call_str_str
/-- a text of two values -/
def TxE (n : Nat) (te : TE) : Prop := ∀ (a : Addr) (v1 v2 : V) (H : Hp) (Q : VK), textV v1 → textV v2 → (∀ x : Str, x.length ≤ n → Q (.str x) H) → te [some (.ref a), some v1, some v2] H Q
structure PTx (X : Cx) (e : Expr) (n : Nat) : Prop where
  ex : ∃ te, PE X e te ∧ TxE n te
section
variable {X : Cx} {pos : Pos}
theorem ptx_str {x : Str} {j : Nat} (n : Nat) (h : x.length ≤ n := by decide) : PTx X (.Constant (.str x) j pos) n := ⟨_, pe_str, fun a v1 v2 H Q _ _ q => q x h⟩
theorem log2_lt {i : Int} (h : i.natAbs < 2 ^ 128) : i.natAbs.log2 < 1920 := by
  by_cases z : i.natAbs = 0
  · rw [z]; decide
  · have := (Nat.log2_lt z).mpr h
    omega
theorem text_one {v : V} {H : Hp} {Q : VK} (t : textV v) (q : ∀ x : Str, x.length ≤ 200 → Q (.str x) H) : rStrU [v] H Q := by
  rcases t with ⟨i, rfl, h⟩ | ⟨x, rfl, h⟩
  · exact .inl ⟨i, rfl, log2_lt h, q _ (Nat.le_trans (intText_le h) (by decide))⟩
  · exact .inr ⟨x, rfl, q x h⟩
theorem ptx_v1 {x : Str} {p p2 : Pos} (hm : X.mg "str" = none) (hN : X.N[1]? = some x := by rfl) (hv : Vis X.env.scope x := by first | exact Or.inl rfl | exact Or.inr (Or.inl rfl) | exact Or.inr (Or.inr rfl)) (hd : (x == ("__debug__" : Str)) = false := by decide)
    (hcd : (x == ("__classdict__" : Str)) = false := by decide) (hg : Gl X "str" := by rfl) (he : starEach [.Name x p2] X.env = (false, eval (.Name x p2) X.env) :: starEach [] X.env := by rfl) (hpl : (backTo pos (starEach [] X.env)).any (·.1) = false := by rfl) :
    PTx X (.Call (.Name "str" p) [.Name x p2] [] pos) 200 :=
  ⟨_, pe_callTy call_strU hg hm (by decide +kernel) (pa_cons (pe_var hN hv hd hcd) pa_nil he) (by decide) (by decide) he hpl, fun a v1 v2 H Q t1 t2 q => ⟨v1, rfl, text_one t1 q⟩⟩
theorem ptx_v2 {x : Str} {p p2 : Pos} (hm : X.mg "str" = none) (hN : X.N[2]? = some x := by rfl) (hv : Vis X.env.scope x := by first | exact Or.inl rfl | exact Or.inr (Or.inl rfl) | exact Or.inr (Or.inr rfl)) (hd : (x == ("__debug__" : Str)) = false := by decide)
    (hcd : (x == ("__classdict__" : Str)) = false := by decide) (hg : Gl X "str" := by rfl) (he : starEach [.Name x p2] X.env = (false, eval (.Name x p2) X.env) :: starEach [] X.env := by rfl) (hpl : (backTo pos (starEach [] X.env)).any (·.1) = false := by rfl) :
    PTx X (.Call (.Name "str" p) [.Name x p2] [] pos) 200 :=
  ⟨_, pe_callTy call_strU hg hm (by decide +kernel) (pa_cons (pe_var hN hv hd hcd) pa_nil he) (by decide) (by decide) he hpl, fun a v1 v2 H Q t1 t2 q => ⟨v2, rfl, text_one t2 q⟩⟩
theorem ptx_add {e f : Expr} {n m : Nat} (h1 : PTx X e n) (h2 : PTx X f m) (hz : n + m ≤ 10000 := by decide) : PTx X (.BinOp e .Add f pos) (n + m) := by
  obtain ⟨t1, p1, q1⟩ := h1
  obtain ⟨t2, p2, q2⟩ := h2
  refine ⟨_, pe_op op_add_str p1 p2, fun a v1 v2 H Q w1 w2 q => ?_⟩
  refine q1 a v1 v2 H _ w1 w2 fun x hx => q2 a v1 v2 H _ w1 w2 fun y hy => ⟨x, y, rfl, rfl, ?_, q _ ?_⟩
  · have : (10000 : Nat) ≤ sizeLine := by decide
    omega
  · rw [Str.length_append]; omega
/-- BitError.__init__(self, text) -/
theorem pe_binit {b : Str} {CB : Addr} {e : Expr} {es : List Expr} {ta : TA} {p1 p2 : Pos} {pl : Sem Bool} (hm : X.mg b = some (.ref CB)) (sg : PySem.W.specialIn X.K (.ref CB) "__getattribute__" = some (some (.builtin "type.__getattribute__"))) (rd : PySem.W.readsIn X.K CB (.type "type") = true)
    (fc : PySem.W.findCls X.K (.ref CB) (.type "type") "__init__" = some (.val (.builtin "ValueError.__init__"))) (ha : PA X (e :: es) ta) (hg : Gl X b := by rfl) (hdb : (b == ("__debug__" : Str)) = false := by decide)
    (hc : eval (.Call (.Attribute (.Name b p1) "__init__" p2) (e :: es) [] pos) X.env = (do
      let ov ← eval (.Name b p1) X.env
      standAt p2.atName
      let (f, first) ← holding [ov] (getMethod ov "__init__" pl)
      callWith pos f first (backTo pos (starEach (e :: es) X.env)) (backToKw pos (keywordEach [] X.env))) := by rfl)
    (he : starEach (e :: es) X.env = (false, eval e X.env) :: starEach es X.env := by rfl) (hpl : (backTo pos (starEach es X.env)).any (·.1) = false := by rfl) :
    PE X (.Call (.Attribute (.Name b p1) "__init__" p2) (e :: es) [] pos) (tVeI X.K ta) := by
  refine ⟨fun pins s σ H Q I h => PySem.W.methodCall_KW (ld_glob I hg hm ?_ hdb) hc⟩
  refine PySem.W.method_cls I.kIn sg (PySem.W.cls_value I.kIn rd fc (by decide +kernel) ?_)
  show wpAny _ _ (callWith pos (Value.builtin "ValueError.__init__") [] (backTo pos (starEach (e :: es) X.env)) []) _ _ _
  refine PyProof.Rows.callWith_method1 (thn (ha.run pos pins _ σ H _ (I.tok _) h) ?_) he hpl
  rintro us s2 ⟨vs, H1, I1, r1, a, C, ws, rfl, hz, T, ea, q⟩
  cases r1 with
  | @cons _ u0 _ ur ra rt =>
    obtain rfl : u0 = Value.ref a := ra
    exact oinit_ok T I1 ea (by rw [← Paired.length rt, sizeLine_eq]; omega) fun s3 J => ⟨.non, H1, J, rfl, q⟩
/-- what such an __init__ does -/
def initSp (K : PySem.W.Frag) (f1 f2 : Str) : Sp := fun vs H Q _ => ∃ (a C : Addr) (v1 v2 : V), vs = [.ref a, v1, v2] ∧ OexC K C ∧ PySem.W.findIn K (.ref C) f1 = some none ∧ PySem.W.findIn K (.ref C) f2 = some none ∧ H a = some (exo a C none) ∧ textV v1 ∧ textV v2 ∧
  ∀ dx, H dx = none → dx ≠ a → Q .non (upd (upd (upd H dx (exd dx [(f1, v1)])) a (exo a C (some dx))) dx (exd dx [(f2, v2), (f1, v1)]))
theorem init_pss {b self x1 x2 f1 f2 : Str} {CB : Addr} {text : Expr} {n : Nat} {p1 p2 p3 p4 p5 q1 q2 q3 q4 r1 r2 r3 r4 : Pos} {vs : List V} {H : Hp} {Q : VK} {E : XK} (hm : X.mg b = some (.ref CB))
    (sg : PySem.W.specialIn X.K (.ref CB) "__getattribute__" = some (some (.builtin "type.__getattribute__"))) (rd : PySem.W.readsIn X.K CB (.type "type") = true) (fc : PySem.W.findCls X.K (.ref CB) (.type "type") "__init__" = some (.val (.builtin "ValueError.__init__")))
    (ht : PTx X text n) (c1 : PE X (.Call (.Attribute (.Name b p1) "__init__" p2) [.Name self p3, text] [] p4) (tVeI X.K (tCons (tVar 0) (tCons ht.ex.choose tNil)))) (w1 : swapsWith (.Call (.Attribute (.Name b p1) "__init__" p2) [.Name self p3, text] [] p4) none p5.line X.env = pure false)
    (v0 : PE X (.Name self q1) (tVar 0)) (v0' : PE X (.Name self r1) (tVar 0)) (v1 : PE X (.Name x1 q3) (tVar 1)) (v2 : PE X (.Name x2 r3) (tVar 2))
    (s1 : swapsWith (.Name x1 q3) (some (.Attribute (.Name self q1) f1 q2)) q4.line X.env = pure false) (s2 : swapsWith (.Name x2 r3) (some (.Attribute (.Name self r1) f2 r2)) r4.line X.env = pure false) (hne : f1 ≠ f2) (h : initSp X.K f1 f2 vs H Q E) :
    ∃ t, PSs X [.Expr (.Call (.Attribute (.Name b p1) "__init__" p2) [.Name self p3, text] [] p4) p5, .Assign [.Attribute (.Name self q1) f1 q2] (.Name x1 q3) q4, .Assign [.Attribute (.Name self r1) f2 r2] (.Name x2 r3) r4] t ∧
      t { nx := fun _ H' => Q .non H', rt := Q } (start [self, x1, x2] vs) H := by
  refine ⟨_, pss_cons (ps_expr c1 w1) (pss_cons (ps_ost v0 v1 s1) (pss_cons (ps_ost v0' v2 s2) pss_nil)), ?_⟩
  obtain ⟨a, C, u1, u2, rfl, T, n1, n2, ea, t1, t2, q⟩ := h
  have ht2 := ht.ex.choose_spec.2
  refine ⟨.ref a, rfl, ht2 a u1 u2 H _ t1 t2 fun x _ => ⟨a, C, [.str x], rfl, by show (1 : Nat) ≤ 1000; decide, T, ea, ?_⟩⟩
  refine ⟨u1, rfl, .ref a, rfl, a, C, rfl, T, n1, .inl ⟨ea, fun dx hd hda => ?_⟩⟩
  refine ⟨u2, rfl, .ref a, rfl, a, C, rfl, T, n2, .inr ⟨dx, [(f1, u1)], upd_same, ?_, by show (1 : Nat) ≤ 900; decide, ?_⟩⟩
  · rw [upd_ne hda]; exact upd_same
  · exact q dx hd hda
end
end DL
set_option Elab.async false
set_option linter.all false
set_option maxRecDepth 100000
set_option maxHeartbeats 2000000
namespace DL
open PySem PySem.Spec L2
open PyProof.Rows hiding St
theorem mk2_heap {H1 : Hp} {a dx : Addr} {o1 o2 o3 o4 o5 : HO} (na : H1 a = none) (hda : dx ≠ a) : upd (L2.del (upd (upd (upd (upd H1 a o1) dx o2) a o3) dx o4) a) dx o5 = upd H1 dx o5 := by
  funext b
  by_cases h1 : b = dx
  · rw [h1, upd_same, upd_same]
  · rw [upd_ne h1, upd_ne h1]
    by_cases h2 : b = a
    · rw [h2, L2.del_same, na]
    · rw [L2.del_ne h2, upd_ne h1, upd_ne h2, upd_ne h1, upd_ne h2]
/-- two arguments, then what follows -/
def wArg2 (wa : WA) (P : R → R → MH → Prop) : G → MH → DX → Prop := fun g M xw => wa g M (fun rs M1 => match rs with
  | [r1, r2] => textR r1 ∧ textR r2 ∧ P r1 r2 M1
  | _ => False) xw
theorem mk2_sim {K : PySem.W.Frag} {W : WW} {C : Addr} {f1 f2 : Str} {ta : TA} {wa : WA} {P : R → R → MH → Prop} {J : Jp} {H : Hp} {σ : L2.St} {g : G} {M : MH} {xw : DX} {Q : XK} (T : XiOk K C f1 f2) (sa : SimA K W 2 ta wa) (d : DSt K J H M) (rg : RG K J g σ)
    (h : wArg2 wa P g M xw) (cx : ContX K J xw fun c d H => W c d σ H)
    (q : ∀ r1 r2 J1 H1 M1 dx ws, P r1 r2 M1 → Ex J J1 → DSt K (J1.put dx (.xd ws)) (upd H1 dx (.xd ws)) M1 → Ex J1 (J1.put dx (.xd ws)) → XD K (J1.put dx (.xd ws)) (upd H1 dx (.xd ws)) (some dx) (some [(f2, r2), (f1, r1)]) → Q (.ref C) (some dx) (upd H1 dx (.xd ws))) :
    tMkO C (initSp K f1 f2) [] ta σ H Q := by
  refine sa J H σ g M _ xw _ d rg h (fun rs vs J1 H1 M1 p1 l1 e1 d1 rv => ?_) cx
  split at p1
  · rename_i r1 r2
    obtain ⟨v1, v2, rfl, q1, q2⟩ := pair_of rv
    obtain ⟨t1, t2, p⟩ := p1
    refine ⟨by show (2 : Nat) ≤ 1000; decide, fun a na => ⟨a, C, v1, v2, rfl, T.ox, T.n1, T.n2, upd_same, textR_v q1 t1, textR_v q2 t2, fun dx hd hda => ⟨rfl, dx, [(f2, v2), (f1, v1)], ?_, upd_same, ?_, ?_⟩⟩⟩
    · rw [upd_ne (Ne.symm hda)]; exact upd_same
    · rw [upd_ne hda] at hd; exact hd
    · rw [upd_ne hda] at hd
      rw [mk2_heap na hda]
      have e2 : Ex J1 (J1.put dx (.xd [(f2, v2), (f1, v1)])) := Ex.new (d1.jnone hd)
      exact q r1 r2 J1 H1 M1 dx _ p e1 (d1.new hd) e2 ⟨_, upd_same, .cons ⟨rfl, q2.mono e2⟩ (.cons ⟨rfl, q1.mono e2⟩ .nil)⟩
  · exact p1.elim
def sRaise2 (cls : Value) (f1 f2 : Str) (wa : WA) : WS := fun D g M => wArg2 wa (fun r1 r2 M1 => D.xc cls (some [(f2, r2), (f1, r1)]) g M1) g M (fun c f M' => D.xc c f g M')
def wMake2 (cls : Value) (f1 f2 : Str) (wa : WA) : WE := fun g M P xw => wArg2 wa (fun r1 r2 M1 => P (.ex cls [f2, f1] [r2, r1]) M1) g M xw
section
variable {X : Cx} {W : WW} {pos : Pos} {x : Str} {C : Addr} {k : Nat} {fd : FuncData} {ps : List Str} {f1 f2 : Str} {p p' : Pos} {e e2 : Expr} {wa : WA}
theorem ds_raise2 (hc : X.calm = true) (tk : Takes X W) (T : XiOk X.K C f1 f2) (F1 : FnOk X.prog X.w X.K X.mg X.base (L2.CX X.prog X.w) k (He.ma X.K C "__init__") fd ps (initSp X.K f1 f2)) (hr : RoomG (k + 1) X.A) (hb : Binds X.K fd ps [])
    (hm : X.mg x = some (.ref C)) (ha : DA X W [e, e2] wa) (hg : Gl X x := by rfl) (hdb : (x == ("__debug__" : Str)) = false := by decide) (he : starEach [e, e2] X.env = (false, eval e X.env) :: starEach [e2] X.env := by rfl) (hpl : (backTo pos (starEach [e2] X.env)).any (·.1) = false := by rfl) :
    DS X W (.Raise (some (.Call (.Name x p) [e, e2] [] pos)) none p') (sRaise2 (.ref C) f1 f2 wa) := by
  obtain ⟨ta, pa, sa⟩ := ha
  refine ⟨_, ps_raise hc tk (pmk_oex T.ox T.iC T.tI F1 hr.r hb .nil (passes_call tk fun _ _ _ _ z => z.elim) hg hm pa hdb he hpl), fun J H σ g M D E d rg h ct => ?_⟩
  exact mk2_sim T sa d rg h (ct.x rg) fun r1 r2 J1 H1 M1 dx ws p e1 d2 e3 x2 => ct.xc _ _ _ g σ _ _ M1 p (e1.trans e3) d2 (rg.mono (e1.trans e3)) x2
theorem de_make2 (tk : Takes X W) (T : XiOk X.K C f1 f2) (F1 : FnOk X.prog X.w X.K X.mg X.base (L2.CX X.prog X.w) k (He.ma X.K C "__init__") fd ps (initSp X.K f1 f2)) (hr : RoomG (k + 1) X.A) (hb : Binds X.K fd ps [])
    (hm : X.mg x = some (.ref C)) (ha : DA X W [e, e2] wa) (hg : Gl X x := by rfl) (hdb : (x == ("__debug__" : Str)) = false := by decide) (he : starEach [e, e2] X.env = (false, eval e X.env) :: starEach [e2] X.env := by rfl) (hpl : (backTo pos (starEach [e2] X.env)).any (·.1) = false := by rfl) :
    DE X W (.Call (.Name x p) [e, e2] [] pos) (wMake2 (.ref C) f1 f2 wa) := by
  obtain ⟨ta, pa, sa⟩ := ha
  refine ⟨_, pe_made (pmk_oex T.ox T.iC T.tI F1 hr.r hb .nil (passes_call tk fun _ _ _ _ z => z.elim) hg hm pa hdb he hpl), fun J H σ g M P xw Q d rg h c cx => ?_⟩
  exact mk2_sim T sa d rg h cx fun r1 r2 J1 H1 M1 dx ws p e1 d2 e3 x2 b nb => c _ _ _ _ M1 p ((e1.trans e3).trans (Ex.new (d2.jnone nb))) (d2.new nb) (exR_rv d2 nb x2)
theorem de_make0 {m : Str} {j : Nat} {p2 : Pos} (q : PySem.W.excIn X.K C He.veBase "ValueError.__new__" = true) (gC : X.mg x = some (.ref C)) (T : XcOk X.K C) (hg : Gl X x := by rfl) (hdb : (x == ("__debug__" : Str)) = false := by decide) :
    DE X W (.Call (.Name x p) [.Constant (.str m) j p2] [] pos) (wC (.ex (.ref C) [] [])) :=
  ⟨_, pe_made (pmk_own F.excBase_ValueError q gC T.kp (raises_own T.sb T.ty) hg hdb), fun J H σ g M P xw Q d rg h c cx b nb => c _ _ _ _ M h (Ex.new (d.jnone nb)) (d.new nb) (exR_rv (fs := none) (d := none) d nb trivial)⟩
end
end DL
set_option Elab.async false
set_option linter.all false
set_option maxRecDepth 100000
set_option maxHeartbeats 2000000
set_option autoImplicit true
namespace DL
open PySem PySem.Spec L2
open PyProof.Rows hiding St
section
variable {P : Program} {w : World} {K : PySem.W.Frag} {mg : Str → Option Value} {base : Heap}
theorem drNew (ns : List Int) (h : ns.length ≤ 90) : DrOk 0 (ns ++ [0]) 0 0 0 := ⟨by rw [List.length_append]; exact ⟨by simp, by simp; omega⟩, by omega, by omega⟩
def spBegin0 : DSp := fun rs M Q _ => ∃ ns : List Int, rs = [.scr ns] ∧ ns.length ≤ 90 ∧ ∀ a, M a = none → Q (.o a) (updM M a (.dK (drKvs (ns ++ [0]) 0 0 0)))
theorem ok0__law_begin (T : Txt w K mg) : DFn P w K mg base 1 (He.ga K "_law_begin") T.d__law_begin ["script"] (spBegin0) := by
  refine dfn_of T.F__law_begin sc__law_begin (fun cdv A outer s H E hr tk hp => ⟨_, (dss_cons (ds_ret (de_disp (dps_cons de_str (de_op op_addU sim_add (de_var 0) (de_lst (da_cons de_int da_nil))) (dps_cons de_str de_int (dps_cons de_str de_int (dps_cons de_str de_int dps_nil))))))
    dss_nil), fun rs M Q xw h hl => ?_⟩)
  obtain ⟨ns, rfl, h0, hQ⟩ := h
  have sl : 91 ≤ sizeLine := by decide
  refine ⟨ns.map R.int, [R.int 0], rfl, rfl, by rw [List.length_map]; exact Nat.le_trans (Nat.add_le_add_right h0 1) sl, fun a ha => ⟨_, Sub.rfl', ?_⟩⟩
  have q := hQ a ha
  unfold drKvs at q
  rw [List.map_append] at q
  exact q
theorem ok__law_begin (T : Txt w K mg) : DFn P w K mg base 1 (He.ga K "_law_begin") T.d__law_begin ["script"] (spBegin) := (ok0__law_begin T).closedS.imp fun rs M Q _ h => by
  obtain ⟨ns, rfl, h0, hQ⟩ := h
  refine ⟨ns, rfl, h0, fun a ha => ⟨a, 0, ns ++ [0], 0, 0, 0, rfl, drNew ns h0, updM_same, ?_⟩⟩
  rw [updM_updM]
  exact hQ a ha
end
section
variable {P : Program} {w : World} {K : PySem.W.Frag} {mg : Str → Option Value} {base : Heap}
theorem ok_BadText_init (T : Txt w K mg) : FnOk P w K mg base (L2.CX P w) 1 (He.ma K (He.ga K "BadText") "__init__") T.d_BadText_init ["self", "line", "word"] (initSp K "line" "word") := by
  refine FunD.ok T.F_BadText_init sc_BadText_init (fun vs H Q E h => ?_) (fun cdv A outer s H vs Q E hr hsp => ?_)
  · obtain ⟨a, C, v1, v2, rfl, _⟩ := h; rfl
  · exact init_pss T.g_BitError T.x_.b1 T.x_.b2 T.x_.b3 (ptx_add (ptx_add (ptx_add (ptx_add (ptx_str 5) (ptx_v1 T.n_str)) (ptx_str 11)) (ptx_v2 T.n_str)) (ptx_str 18)) (pe_binit T.g_BitError T.x_.b1 T.x_.b2 T.x_.b3 (pa_cons (pe_var (i := 0) rfl (Or.inl rfl) (by decide) (by decide)) (pa_cons (ptx_add (ptx_add (ptx_add (ptx_add (ptx_str 5) (ptx_v1 T.n_str)) (ptx_str 11)) (ptx_v2 T.n_str)) (ptx_str 18)).ex.choose_spec.1 pa_nil rfl) rfl)) rfl (pe_var (i := 0) rfl (Or.inl rfl) (by decide) (by decide)) (pe_var (i := 0) rfl (Or.inl rfl) (by decide) (by decide)) (pe_var (i := 1) rfl (Or.inl rfl) (by decide) (by decide)) (pe_var (i := 2) rfl (Or.inl rfl) (by decide) (by decide)) rfl rfl (by decide) hsp
end
section
variable {P : Program} {w : World} {K : PySem.W.Frag} {mg : Str → Option Value} {base : Heap}
theorem ok_Unsound_init (T : Txt w K mg) : FnOk P w K mg base (L2.CX P w) 1 (He.ma K (He.ga K "Unsound") "__init__") T.d_Unsound_init ["self", "place", "what"] (initSp K "place" "what") := by
  refine FunD.ok T.F_Unsound_init sc_Unsound_init (fun vs H Q E h => ?_) (fun cdv A outer s H vs Q E hr hsp => ?_)
  · obtain ⟨a, C, v1, v2, rfl, _⟩ := h; rfl
  · exact init_pss T.g_BitError T.x_.b1 T.x_.b2 T.x_.b3 (ptx_add (ptx_add (ptx_add (ptx_str 10) (ptx_v1 T.n_str)) (ptx_str 2)) (ptx_v2 T.n_str)) (pe_binit T.g_BitError T.x_.b1 T.x_.b2 T.x_.b3 (pa_cons (pe_var (i := 0) rfl (Or.inl rfl) (by decide) (by decide)) (pa_cons (ptx_add (ptx_add (ptx_add (ptx_str 10) (ptx_v1 T.n_str)) (ptx_str 2)) (ptx_v2 T.n_str)).ex.choose_spec.1 pa_nil rfl) rfl)) rfl (pe_var (i := 0) rfl (Or.inl rfl) (by decide) (by decide)) (pe_var (i := 0) rfl (Or.inl rfl) (by decide) (by decide)) (pe_var (i := 1) rfl (Or.inl rfl) (by decide) (by decide)) (pe_var (i := 2) rfl (Or.inl rfl) (by decide) (by decide)) rfl rfl (by decide) hsp
end
section
variable {P : Program} {w : World} {K : PySem.W.Frag} {mg : Str → Option Value} {base : Heap}
theorem lst_py {rs : List R} {d : PyData} (e : (R.lst rs).py = some d) : ∃ ds, R.pys rs = some ds ∧ d = .list ds := by
  rw [R.py] at e
  obtain ⟨ds, e1, e2⟩ := Option.map_eq_some_iff.mp e
  exact ⟨ds, e1, e2.symm⟩
def spCaughtX : DSp := fun rs M Q _ => ∃ n pl : Int, rs = [.int n, .int pl] ∧ n.natAbs < 2 ^ 128 ∧ pl.natAbs < 2 ^ 128 ∧ ∀ M', Sub M M' → Q (.bl true) M'
theorem ok__law_is_caught (T : Txt w K mg) : DFn P w K mg base 3 (He.ga K "_law_is_caught") T.d__law_is_caught ["number", "place"] (spCaughtX) := by
  refine dfn_of T.F__law_is_caught sc__law_is_caught (fun cdv A outer s H E hr tk hp => ⟨_, (dss_cons (ds_set 2 sc__law_is_caught.nd (de_lstO da_nil))
    (dss_cons (ds_try 3 rfl rfl sc__law_is_caught.nd T.g_BadText (fun W2 pn2 xe2 tk hp => (dss_cons (ds_raise2 rfl tk (xi_BadText T) (ok_BadText_init T) (hr.mono (by decide)) (b_BadText_init T) T.g_BadText (da_cons (de_var 0) (da_cons (de_var 1) da_nil)))
    dss_nil)) (fun a2 pn2 => (dss_cons (ds_expr (de_append (de_var 2) (da_cons (de_tup (da_cons (de_xf (K0 := K) (de_var 3)) (da_cons (de_xf (K0 := K) (de_var 3)) da_nil))) da_nil)))
    dss_nil)))
    (dss_cons (ds_try 3 rfl rfl sc__law_is_caught.nd T.g_BitError (fun W2 pn2 xe2 tk hp => (dss_cons (ds_raise2 rfl tk (xi_Unsound T) (ok_Unsound_init T) (hr.mono (by decide)) (b_Unsound_init T) T.g_Unsound (da_cons (de_var 1) (da_cons (de_var 0) da_nil)))
    dss_nil)) (fun a2 pn2 => (dss_cons (ds_expr (de_append (de_var 2) (da_cons (de_tup (da_cons (de_xf (K0 := K) (de_var 3)) (da_cons (de_xf (K0 := K) (de_var 3)) da_nil))) da_nil)))
    dss_nil)))
    (dss_cons (ds_ret (de_cmp (op_eqU hr.hu) sim_eq (de_callB (call_reprU hr) sc_repr T.n_repr (da_cons (de_var 2) da_nil)) (de_callB (call_reprU hr) sc_repr T.n_repr (da_cons (de_lst (da_cons (de_tup (da_cons (de_var 0) (da_cons (de_var 1) da_nil))) (da_cons (de_tup (da_cons (de_var 1) (da_cons (de_var 0) da_nil))) da_nil))) da_nil))))
    dss_nil)))), fun rs M Q xw h hl => ?_⟩)
  obtain ⟨n, pl, rfl, h1, h2, hQ⟩ := h
  intro a ha
  refine ⟨h1, h2, (T.x_.m "BadText" (by decide) "BadText" (by decide)).trans (by decide +kernel), ?_⟩
  refine ⟨⟨_, updM_same⟩, _, _, rfl, xc_BadText T, (xi_BadText T).n1, rfl, _, _, rfl, xc_BadText T, (xi_BadText T).n2, rfl, _, updM_same, Nat.le_of_ble_eq_true rfl, ?_⟩
  rw [updM_updM]
  refine ⟨h2, h1, xm_Unsound T, ?_⟩
  refine ⟨⟨_, updM_same⟩, _, _, rfl, xc_Unsound T, (xi_Unsound T).n1, rfl, _, _, rfl, xc_Unsound T, (xi_Unsound T).n2, rfl, _, updM_same, Nat.le_of_ble_eq_true rfl, ?_⟩
  rw [updM_updM]
  have sh : R.shw (.lst [.tup [.int n, .int pl], .tup [.int pl, .int n]]) = true := by simp [R.shw, R.shws, h1, h2]
  obtain ⟨d, e, d1, d2, d3, d4, _⟩ := reprD sh rfl rfl
  obtain ⟨ds, e1, e2⟩ := lst_py e
  refine ⟨d, .inr ⟨a, _, ds, rfl, updM_same, e1, e2⟩, d1, d2, d3, d4, ⟨[], .inr (.inr ⟨a, rfl⟩)⟩, d, .inl e, d1, d2, d3, d4, ⟨_, .inr (.inl rfl)⟩, ?_⟩
  refine ⟨_, Sub.rfl', ?_⟩
  rw [decide_eq_true rfl]
  exact hQ _ (Sub.new Sub.rfl' ha)
end
section
variable {P : Program} {w : World} {K : PySem.W.Frag} {mg : Str → Option Value} {base : Heap}
def madeX (K : PySem.W.Frag) (n pl : Int) (w : Str) : List R :=
  [.ex (.ref (He.ga K "BadText")) ["word", "line"] [.int pl, .int n], .ex (.ref (He.ga K "Unsound")) ["what", "place"] [.str w, .int pl], .ex (.ref (He.ga K "BadProgram")) [] [], .ex (.ref (He.ga K "BadInput")) [] [], .ex (.ref (He.ga K "BadPlace")) [] [],
   .ex (.ref (He.ga K "BadFacts")) [] [], .ex (.ref (He.ga K "BadWidths")) [] [], .ex (.ref (He.ga K "BadPaper")) [] [], .ex (.ref (He.ga K "BadAsked")) [] [], .ex (.ref (He.ga K "TooMany")) [] [], .ex (.ref (He.ga K "BadLine")) [] []]
def spMade (K : PySem.W.Frag) : DSp := fun rs M Q _ => ∃ (n pl : Int) (w : Str), rs = [.int n, .int pl, .str w] ∧ n.natAbs < 2 ^ 128 ∧ pl.natAbs < 2 ^ 128 ∧ w.length ≤ 200 ∧ Q (.lst (madeX K n pl w)) M
theorem ok__law_made (T : Txt w K mg) : DFn P w K mg base 3 (He.ga K "_law_made") T.d__law_made ["number", "place", "what"] ((spMade K)) := by
  refine dfn_of T.F__law_made sc__law_made (fun cdv A outer s H E hr tk hp => ⟨_, (dss_cons (ds_set 3 sc__law_made.nd (de_lst (da_cons (de_make2 tk (xi_BadText T) (ok_BadText_init T) (hr.mono (by decide)) (b_BadText_init T) T.g_BadText (da_cons (de_var 0) (da_cons (de_var 1) da_nil))) (da_cons (de_make2 tk (xi_Unsound T) (ok_Unsound_init T) (hr.mono (by decide)) (b_Unsound_init T) T.g_Unsound (da_cons (de_var 1) (da_cons (de_var 2) da_nil))) (da_cons (de_make0 (xs_BadProgram T) T.g_BadProgram (xc_BadProgram T)) (da_cons (de_make0 (xs_BadInput T) T.g_BadInput (xc_BadInput T)) (da_cons (de_make0 (xs_BadPlace T) T.g_BadPlace (xc_BadPlace T)) da_nil)))))))
    (dss_cons (ds_set 3 sc__law_made.nd (de_op op_addU sim_add (de_var 3) (de_lst (da_cons (de_make0 (xs_BadFacts T) T.g_BadFacts (xc_BadFacts T)) (da_cons (de_make0 (xs_BadWidths T) T.g_BadWidths (xc_BadWidths T)) (da_cons (de_make0 (xs_BadPaper T) T.g_BadPaper (xc_BadPaper T)) (da_cons (de_make0 (xs_BadAsked T) T.g_BadAsked (xc_BadAsked T)) (da_cons (de_make0 (xs_TooMany T) T.g_TooMany (xc_TooMany T)) da_nil))))))))
    (dss_cons (ds_ret (de_op op_addU sim_add (de_var 3) (de_lst (da_cons (de_make0 (xs_BadLine T) T.g_BadLine (xc_BadLine T)) da_nil))))
    dss_nil))), fun rs M Q xw h hl => ?_⟩)
  obtain ⟨n, pl, w, rfl, h1, h2, h3, hQ⟩ := h
  refine ⟨h1, h2, h2, h3, ?_⟩
  refine ⟨_, _, rfl, rfl, Nat.le_of_ble_eq_true rfl, ?_⟩
  refine ⟨_, _, rfl, rfl, Nat.le_of_ble_eq_true rfl, ?_⟩
  exact ⟨M, Sub.rfl', hQ⟩
end
section
variable {P : Program} {w : World} {K : PySem.W.Frag} {mg : Str → Option Value} {base : Heap}
theorem mulS {i j : Int} (h : 0 ≤ i) (h2 : i < 2 ^ 64) : CMul i j ∨ CMulW i j := .inl (.inl ⟨by omega, h2⟩)
theorem mulT {i j : Int} (h : 0 ≤ j) (h2 : j < 2 ^ 64) : CMul i j ∨ CMulW i j := .inl (.inr ⟨by omega, h2⟩)
theorem modB {i m : Int} (h : 0 < m) : 0 ≤ i % m ∧ i % m < m := ⟨Int.emod_nonneg _ (by omega), Int.emod_lt_of_pos _ h⟩
theorem ok__law_mixed (T : Txt w K mg) : DFn P w K mg base 1 (He.ga K "_law_mixed") T.d__law_mixed ["cell", "k"] (spMixed) := by
  refine dfn_of T.F__law_mixed sc__law_mixed (fun cdv A outer s H E hr tk hp => ⟨_, (dss_cons (ds_set 2 sc__law_mixed.nd (de_op op_mod sim_IC (de_op op_addU sim_add (de_op op_addU sim_add (de_op op_addU sim_add (de_op op_mod sim_IC (de_var 0) de_int) (de_op op_mulU sim_mul (de_op op_mulU sim_mul de_int (de_var 1)) (de_var 1))) (de_op op_mulU sim_mul de_int (de_var 1))) de_int) de_int))
    (dss_cons (ds_set 2 sc__law_mixed.nd (de_op op_mod sim_IC (de_op op_mulU sim_mul (de_op op_mod sim_IC (de_op op_mulU sim_mul (de_var 2) (de_var 2)) de_int) (de_var 2)) de_int))
    (dss_cons (ds_ret (de_op op_fdivW sim_IC (de_op op_mod sim_IC (de_op op_mulU sim_mul (de_var 2) (de_op op_addU sim_add de_int (de_op op_mulU sim_mul de_int (de_op op_mod sim_IC (de_var 1) de_int)))) de_int) de_int))
    dss_nil))), fun rs M Q xw h hl => ?_⟩)
  obtain ⟨c, k, rfl, h0, h1, hQ⟩ := h
  have p0 : (0 : Int) < 1000000007 := by decide
  have p : (0 : Int) < 2147483647 := by decide
  have q : (0 : Int) < 2147483629 := by decide
  have t : (0 : Int) < 1000 := by decide
  have s7 : CDivW 0 7 := divOk (by decide) (by decide)
  have k1 : k < 2 ^ 64 := by omega
  refine ⟨p0, mulS (by decide) (by decide), mulT h0 k1, mulT h0 k1, p, ?_⟩
  refine ⟨mulS (modB p).1 (Int.lt_trans (modB p).2 (by decide)), p, mulS (modB p).1 (Int.lt_trans (modB p).2 (by decide)), q, ?_⟩
  refine ⟨t, mulS (by decide) (by decide), mulS (modB q).1 (Int.lt_trans (modB q).2 (by decide)), p, s7, M, Sub.rfl', hQ _ ?_⟩
  exact Int.ediv_nonneg (modB p).1 (by decide)
end
section
variable {P : Program} {w : World} {K : PySem.W.Frag} {mg : Str → Option Value} {base : Heap}
/-- the draw told to the sign -/
def spNext0 : DSp := fun rs M Q _ => ∃ a m n ns t l u, rs = [.o a, .int m] ∧ M a = some (.dK (drKvs ns t l u)) ∧ DrOk n ns t l u ∧ n < 2 ^ 60 ∧ CDivW 0 m ∧
  ∀ i t' l' u', 0 ≤ i → i < m → DrOk (n + 1) ns t' l' u' → Q (.int i) (updM M a (.dK (drKvs ns t' l' u')))
theorem getAt {ns : List Int} {t : Int} (h : 1 ≤ ns.length) : ∃ c : Int, atI (ns.map R.int) (t % ((ns.map R.int).length : Int)) = some (.int c) := by
  have e : (ns.map R.int).length = ns.length := List.length_map ..
  obtain ⟨r, h1, h2⟩ := atI_some (xs := ns.map R.int) (i := t % ((ns.map R.int).length : Int)) (Int.emod_nonneg _ (by omega)) (Int.emod_lt_of_pos _ (by omega))
  obtain ⟨c, _, rfl⟩ := List.mem_map.mp h2
  exact ⟨c, h1⟩
theorem ok0__law_next (T : Txt w K mg) : DFn P w K mg base 2 (He.ga K "_law_next") T.d__law_next ["draw", "many"] (spNext0) := by
  refine dfn_of T.F__law_next sc__law_next (fun cdv A outer s H E hr tk hp => ⟨_, (dss_cons (ds_if (dt_cmp op_gt sim_B0 (de_dget hr.hu (de_var 0) de_str) de_int) (dss_cons (ds_set 2 sc__law_next.nd (de_op op_mod sim_IC (de_dget hr.hu (de_var 0) de_str) (de_var 1)))
    (dss_cons (ds_dput hr.hu (de_var 0) de_str (de_op op_fdivW sim_IC (de_dget hr.hu (de_var 0) de_str) (de_var 1)))
    (dss_cons (ds_ret (de_var 2))
    dss_nil))) dss_nil)
    (dss_cons (ds_set 3 sc__law_next.nd (de_dget hr.hu (de_var 0) de_str))
    (dss_cons (ds_set 4 sc__law_next.nd (de_ix (de_var 3) (de_op op_mod sim_IC (de_dget hr.hu (de_var 0) de_str) (de_callB call_lenU sc_len T.n_len (da_cons (de_var 3) da_nil)))))
    (dss_cons (ds_dput hr.hu (de_var 0) de_str (de_op op_addU sim_add (de_dget hr.hu (de_var 0) de_str) de_int))
    (dss_cons (ds_if (DW.dt (dw_and (dt_cmp op_ge sim_B0 (de_var 4) (de_op op_pow sim_IC de_int de_int)) (dw_and1 (dt_cmp op_le sim_B0 (de_dget hr.hu (de_var 0) de_str) (de_callB call_lenU sc_len T.n_len (da_cons (de_var 3) da_nil)))))) (dss_cons (ds_dput hr.hu (de_var 0) de_str (de_op op_fdivW sim_IC (de_var 4) (de_var 1)))
    (dss_cons (ds_ret (de_op op_mod sim_IC (de_var 4) (de_var 1)))
    dss_nil)) dss_nil)
    (dss_cons (ds_dput hr.hu (de_var 0) de_str (de_op op_addU sim_add (de_dget hr.hu (de_var 0) de_str) de_int))
    (dss_cons (ds_ret (de_op op_mod sim_IC (de_call (ok__law_mixed T) (hr.mono (by decide)) T.g__law_mixed T.F__law_mixed.kp (b__law_mixed T) tk (da_cons (de_call (ok__law_mixed T) (hr.mono (by decide)) T.g__law_mixed T.F__law_mixed.kp (b__law_mixed T) tk (da_cons (de_var 4) (da_cons (de_dget hr.hu (de_var 0) de_str) da_nil))) (da_cons (de_dget hr.hu (de_var 0) de_str) da_nil))) (de_var 1)))
    dss_nil))))))), fun rs M Q xw h hl => ?_⟩)
  obtain ⟨a, m, n, ns, t, l, u, rfl, hM, d, hn, hm, hQ⟩ := h
  have m0 : 0 < m := hm.1
  have s4 : 4 < sizeLine := by decide
  obtain ⟨d1, d2, d3, d4⟩ := d.at0
  obtain ⟨c, hc⟩ := getAt (ns := ns) (t := t) d.len.1
  refine ⟨_, _, hM, rfl, fun z => ?_, fun z => ?_⟩
  · refine ⟨_, _, hM, rfl, m0, _, _, hM, rfl, hm, _, hM, s4, _, Sub.rfl', ?_⟩
    exact hQ (l % m) t (l / m) u (modB m0).1 (modB m0).2 ⟨d.len, by omega, Int.ediv_nonneg d.left0 (Int.le_of_lt m0)⟩
  refine ⟨_, _, hM, rfl, _, _, hM, rfl, ?_, _, _, rfl, hc, _, _, hM, rfl, _, hM, s4, ?_⟩
  · show (0 : Int) < ((ns.map R.int).length : Int)
    rw [List.length_map]; have := d.len.1; omega
  have A1 : ∀ (l' u' : Int), updM M a (.dK (drKvs ns (t + 1) l' u')) a = some (.dK (drKvs ns (t + 1) l' u')) := fun _ _ => updM_same
  have n1 : ((n + 1 : Nat) : Int) = (n : Int) + 1 := by omega
  refine ⟨⟨by decide, by decide, by decide⟩, fun z1 => ⟨_, _, A1 l u, rfl, fun z2 => ?_, fun z2 => ?_⟩, fun z1 => ⟨nt, fun _ => ?_⟩⟩
  · have c0 : (10 : Int) ^ 18 ≤ c := of_decide_eq_true z1
    have c1 : 0 ≤ c := Int.le_trans (by decide) c0
    refine ⟨hm, _, A1 l u, s4, m0, _, Sub.rfl', ?_⟩
    rw [updM_updM]
    exact hQ (c % m) (t + 1) (c / m) u (modB m0).1 (modB m0).2 ⟨d.len, by omega, Int.ediv_nonneg c1 (Int.le_of_lt m0)⟩
  all_goals
    refine ⟨_, _, A1 l u, rfl, _, A1 l u, s4, ?_⟩
    rw [updM_updM]
    have A2 := A1 l (u + 1)
    refine ⟨_, _, A2, rfl, c, t + 1, rfl, by omega, by omega, fun i i0 => ⟨_, _, A2, rfl, i, u + 1, rfl, by omega, by omega, fun i' i0' => ⟨m0, _, Sub.rfl', ?_⟩⟩⟩
    exact hQ (i' % m) (t + 1) l (u + 1) (modB m0).1 (modB m0).2 ⟨d.len, by omega, d.left0⟩
theorem ok__law_next (T : Txt w K mg) : DFn P w K mg base 2 (He.ga K "_law_next") T.d__law_next ["draw", "many"] (spNext) := ((ok0__law_next T).opened 1).imp fun rs M Q _ h => by
  obtain ⟨a, m, n, rfl, hM, hn, hm, hQ⟩ := h
  refine ⟨a, _, rfl, n, hM, fun ns t l u h0 => ⟨a, m, n, ns, t, l, u, rfl, updM_same, h0, hn, hm, fun i t' l' u' i0 i1 h1 => ⟨ns, t', l', u', h1, ?_, ?_⟩⟩⟩
  · rw [updM_updM, updM_same]
  · rw [updM_updM, updM_updM]
    exact hQ i i0 i1
end
section
variable {P : Program} {w : World} {K : PySem.W.Frag} {mg : Str → Option Value} {base : Heap}
def wordsT : List (Str × Str) := [("text", "BadText"), ("unsound", "Unsound"), ("program", "BadProgram"), ("input", "BadInput"), ("place", "BadPlace"), ("facts", "BadFacts"), ("widths", "BadWidths"), ("paper", "BadPaper"), ("asked", "BadAsked"), ("many", "TooMany"), ("line", "BadLine")]
def wordsX (p : Str) : List R := (wordsT.filter fun q => decide (q.2 = p) || decide (q.2 = ("BitError" : Str))).map fun q => R.str q.1
def snB : R → Bool
  | .tup [_, .bl b] => b
  | _ => false
def fsR : R → R
  | .tup [w, _] => w
  | _ => .non
theorem words_list (p : Str) : ((wordsT.map fun q => R.tup [.str q.1, .bl (decide (q.2 = p) || decide (q.2 = ("BitError" : Str)))]).filter snB).map fsR = wordsX p := by
  unfold wordsX
  rw [List.filter_map, List.map_map]
  rfl
def spWordsX (K : PySem.W.Frag) : DSp := fun rs M Q _ => ∃ p ns qs, p ∈ xt.ns ∧ rs = [.ex (.ref (He.ga K p)) ns qs] ∧ Q (.lst (wordsX p)) M
theorem ok__law_words (T : Txt w K mg) : DFn P w K mg base 1 (He.ga K "_law_words") T.d__law_words ["error"] ((spWordsX K)) := by
  refine dfn_of T.F__law_words sc__law_words (fun cdv A outer s H E hr tk hp => ⟨_, (dss_cons (ds_set 1 sc__law_words.nd (de_lst (da_cons (de_tup (da_cons de_str (da_cons (de_callB call_isX (sc_isX (K := K)) T.n_isinstance (da_cons (de_var 0) (da_cons (de_gref T.g_BadText) da_nil))) da_nil))) (da_cons (de_tup (da_cons de_str (da_cons (de_callB call_isX (sc_isX (K := K)) T.n_isinstance (da_cons (de_var 0) (da_cons (de_gref T.g_Unsound) da_nil))) da_nil))) da_nil))))
    (dss_cons (ds_set 1 sc__law_words.nd (de_op op_addU sim_add (de_var 1) (de_lst (da_cons (de_tup (da_cons de_str (da_cons (de_callB call_isX (sc_isX (K := K)) T.n_isinstance (da_cons (de_var 0) (da_cons (de_gref T.g_BadProgram) da_nil))) da_nil))) (da_cons (de_tup (da_cons de_str (da_cons (de_callB call_isX (sc_isX (K := K)) T.n_isinstance (da_cons (de_var 0) (da_cons (de_gref T.g_BadInput) da_nil))) da_nil))) da_nil)))))
    (dss_cons (ds_set 1 sc__law_words.nd (de_op op_addU sim_add (de_var 1) (de_lst (da_cons (de_tup (da_cons de_str (da_cons (de_callB call_isX (sc_isX (K := K)) T.n_isinstance (da_cons (de_var 0) (da_cons (de_gref T.g_BadPlace) da_nil))) da_nil))) (da_cons (de_tup (da_cons de_str (da_cons (de_callB call_isX (sc_isX (K := K)) T.n_isinstance (da_cons (de_var 0) (da_cons (de_gref T.g_BadFacts) da_nil))) da_nil))) da_nil)))))
    (dss_cons (ds_set 1 sc__law_words.nd (de_op op_addU sim_add (de_var 1) (de_lst (da_cons (de_tup (da_cons de_str (da_cons (de_callB call_isX (sc_isX (K := K)) T.n_isinstance (da_cons (de_var 0) (da_cons (de_gref T.g_BadWidths) da_nil))) da_nil))) (da_cons (de_tup (da_cons de_str (da_cons (de_callB call_isX (sc_isX (K := K)) T.n_isinstance (da_cons (de_var 0) (da_cons (de_gref T.g_BadPaper) da_nil))) da_nil))) da_nil)))))
    (dss_cons (ds_set 1 sc__law_words.nd (de_op op_addU sim_add (de_var 1) (de_lst (da_cons (de_tup (da_cons de_str (da_cons (de_callB call_isX (sc_isX (K := K)) T.n_isinstance (da_cons (de_var 0) (da_cons (de_gref T.g_BadAsked) da_nil))) da_nil))) (da_cons (de_tup (da_cons de_str (da_cons (de_callB call_isX (sc_isX (K := K)) T.n_isinstance (da_cons (de_var 0) (da_cons (de_gref T.g_TooMany) da_nil))) da_nil))) da_nil)))))
    (dss_cons (ds_ret (de_lc (own := [("word", 2), ("is_so", 3)]) rfl sc__law_words.nd (di_list (de_op op_addU sim_add (de_var 1) (de_lst (da_cons (de_tup (da_cons de_str (da_cons (de_callB call_isX (sc_isX (K := K)) T.n_isinstance (da_cons (de_var 0) (da_cons (de_gref T.g_BadLine) da_nil))) da_nil))) da_nil)))) (blkOk_by (by show blkC ["error", "found", "word", "is_so"] (defScope s__law_words) _ _ = true; decide +kernel)) (simc2 (by decide) (by decide)) (fun _ _ _ _ _ => (pg_tup rfl (pgs_cons (pg_name (i := 2) sc__law_words.nd rfl (Or.inl rfl)) (pgs_cons (pg_name (i := 3) sc__law_words.nd rfl (Or.inl rfl)) pgs_nil)))) (fun _ _ _ _ _ => (dts_one (dt_val (de_var 3)))) (fun _ _ _ _ _ => (de_var 2))))
    dss_nil)))))), fun rs M Q xw h hl => ?_⟩)
  obtain ⟨p, ns, qs, hp, rfl, hQ⟩ := h
  have C := T.x_.c p hp
  have k := T.x_.k p hp
  refine ⟨_, _, rfl, C, k "BadText" (by decide), _, _, rfl, C, k "Unsound" (by decide), ?_⟩
  refine ⟨_, _, rfl, C, k "BadProgram" (by decide), _, _, rfl, C, k "BadInput" (by decide), _, _, rfl, rfl, Nat.le_of_ble_eq_true rfl, ?_⟩
  refine ⟨_, _, rfl, C, k "BadPlace" (by decide), _, _, rfl, C, k "BadFacts" (by decide), _, _, rfl, rfl, Nat.le_of_ble_eq_true rfl, ?_⟩
  refine ⟨_, _, rfl, C, k "BadWidths" (by decide), _, _, rfl, C, k "BadPaper" (by decide), _, _, rfl, rfl, Nat.le_of_ble_eq_true rfl, ?_⟩
  refine ⟨_, _, rfl, C, k "BadAsked" (by decide), _, _, rfl, C, k "TooMany" (by decide), _, _, rfl, rfl, Nat.le_of_ble_eq_true rfl, ?_⟩
  refine ⟨_, _, rfl, C, k "BadLine" (by decide), _, _, rfl, rfl, Nat.le_of_ble_eq_true rfl, ?_⟩
  refine ⟨Nat.le_of_ble_eq_true rfl, lcFM snB fsR (fun r hr Pt Pf p1 p2 => ?_) ⟨M, Sub.rfl', ?_⟩⟩
  · simp only [List.cons_append, List.nil_append, List.mem_cons, List.not_mem_nil, or_false] at hr
    rcases hr with rfl | rfl | rfl | rfl | rfl | rfl | rfl | rfl | rfl | rfl | rfl <;> exact ⟨rfl, fun z => p1 z, fun z => p2 z⟩
  · rw [← words_list p] at hQ
    exact hQ
end
section
variable {P : Program} {w : World} {K : PySem.W.Frag} {mg : Str → Option Value} {base : Heap}
def dueX : List R := [.str "text", .str "unsound", .str "program", .str "input", .str "place", .str "facts", .str "widths", .str "paper", .str "asked", .str "many", .str "line"]
theorem made_zip (K : PySem.W.Frag) (n pl : Int) (w : Str) {i : Nat} {r : R} (h : (zipR (madeX K n pl w) dueX)[i]? = some r) : ∃ p ns qs word, r = .tup [.ex (.ref (He.ga K p)) ns qs, .str word] ∧ p ∈ xt.ns ∧ wordsX p = [.str word] ∧ (R.lst [.str word]).shw = true := by
  match i, h with
  | 0, h => cases h; exact ⟨"BadText", _, _, _, rfl, by decide, rfl, by decide +kernel⟩
  | 1, h => cases h; exact ⟨"Unsound", _, _, _, rfl, by decide, rfl, by decide +kernel⟩
  | 2, h => cases h; exact ⟨"BadProgram", _, _, _, rfl, by decide, rfl, by decide +kernel⟩
  | 3, h => cases h; exact ⟨"BadInput", _, _, _, rfl, by decide, rfl, by decide +kernel⟩
  | 4, h => cases h; exact ⟨"BadPlace", _, _, _, rfl, by decide, rfl, by decide +kernel⟩
  | 5, h => cases h; exact ⟨"BadFacts", _, _, _, rfl, by decide, rfl, by decide +kernel⟩
  | 6, h => cases h; exact ⟨"BadWidths", _, _, _, rfl, by decide, rfl, by decide +kernel⟩
  | 7, h => cases h; exact ⟨"BadPaper", _, _, _, rfl, by decide, rfl, by decide +kernel⟩
  | 8, h => cases h; exact ⟨"BadAsked", _, _, _, rfl, by decide, rfl, by decide +kernel⟩
  | 9, h => cases h; exact ⟨"TooMany", _, _, _, rfl, by decide, rfl, by decide +kernel⟩
  | 10, h => cases h; exact ⟨"BadLine", _, _, _, rfl, by decide, rfl, by decide +kernel⟩
  | j + 11, h => cases h
theorem whatX {i : Int} (h0 : 0 ≤ i) (h1 : i < 4) : ∃ w : Str, atI [R.str "name", .str "long", .str "", .str "x"] i = some (.str w) ∧ w.length ≤ 5 ∧ (R.str w).shw = true := by
  obtain ⟨r, e, m⟩ := atI_some (xs := [R.str "name", .str "long", .str "", .str "x"]) h0 h1
  simp only [List.mem_cons, List.not_mem_nil, or_false] at m
  rcases m with rfl | rfl | rfl | rfl <;> exact ⟨_, e, by decide, by decide +kernel⟩
theorem kBase {p : Str} : (decide ("BitError" = p) || decide (("BitError" : Str) = xt.base)) = true := by
  rw [decide_eq_true (p := ("BitError" : Str) = xt.base) rfl, Bool.or_true]
def spLaw : DSp := fun rs M Q _ => ∃ ns : List Int, rs = [.scr ns] ∧ ns.length ≤ 63 ∧ ∀ M', Q (.bl true) M'
theorem ok_law (T : Txt w K mg) : DFn P w K mg base 4 (He.ga K "law") T.d_law ["script"] (spLaw) := by
  refine dfn_of T.F_law sc_law (fun cdv A outer s H E hr tk hp => ⟨_, (dss_cons (ds_set 1 sc_law.nd (de_call (ok__law_begin T) (hr.mono (by decide)) T.g__law_begin T.F__law_begin.kp (b__law_begin T) tk (da_cons (de_var 0) da_nil)))
    (dss_cons (ds_set 2 sc_law.nd (de_lst (da_cons de_str (da_cons de_str (da_cons de_str (da_cons de_str (da_cons de_str (da_cons de_str (da_cons de_str (da_cons de_str (da_cons de_str (da_cons de_str (da_cons de_str da_nil)))))))))))))
    (dss_cons (ds_for hp rfl (di_range1 T.n_range (de_op op_addU sim_add (de_callB (call_mn rfl) sc_mn T.n_min (da_cons de_int (da_cons (de_callB call_lenU sc_len T.n_len (da_cons (de_var 0) da_nil)) da_nil))) de_int)) (dg_name 3 sc_law.nd) (dss_cons (ds_par 4 5 rfl sc_law.nd (da_cons (de_call (ok__law_next T) (hr.mono (by decide)) T.g__law_next T.F__law_next.kp (b__law_next T) tk (da_cons (de_var 1) (da_cons (de_op op_pow sim_IC de_int de_int) da_nil))) (da_cons (de_call (ok__law_next T) (hr.mono (by decide)) T.g__law_next T.F__law_next.kp (b__law_next T) tk (da_cons (de_var 1) (da_cons de_int da_nil))) da_nil)))
    (dss_cons (ds_set 6 sc_law.nd (de_ix (de_lst (da_cons de_str (da_cons de_str (da_cons de_str (da_cons de_str da_nil))))) (de_call (ok__law_next T) (hr.mono (by decide)) T.g__law_next T.F__law_next.kp (b__law_next T) tk (da_cons (de_var 1) (da_cons de_int da_nil)))))
    (dss_cons (ds_set 7 sc_law.nd (de_call (ok__law_made T) (hr.mono (by decide)) T.g__law_made T.F__law_made.kp (b__law_made T) tk (da_cons (de_var 4) (da_cons (de_var 5) (da_cons (de_var 6) da_nil)))))
    (dss_cons (ds_for hp rfl (di_zip T.n_zip (de_var 7) (de_var 2)) (dg_tup rfl (dgs_cons (dg_name 8 sc_law.nd) (dgs_cons (dg_name 9 sc_law.nd) dgs_nil))) (dss_cons (ds_if (DW.dt (dw_or (dt_cmp (op_neU hr.hu) sim_ne (de_call (ok__law_words T) (hr.mono (by decide)) T.g__law_words T.F__law_words.kp (b__law_words T) tk (da_cons (de_var 8) da_nil)) (de_lst (da_cons (de_var 9) da_nil))) (dw_or (dt_not (dt_val (de_callB call_isX (sc_isX (K := K)) T.n_isinstance (da_cons (de_var 8) (da_cons (de_gref T.g_BitError) da_nil))))) (dw_or1 (dt_not (dt_val (de_callB call_isX (sc_isX (K := K)) T.n_isinstance (da_cons (de_var 8) (da_cons (de_ty .ve T.n_ValueError) da_nil))))))))) (dss_cons (ds_ret de_bl)
    dss_nil) dss_nil)
    dss_nil))
    (dss_cons (ds_if (dt_cmp (op_neU hr.hu) sim_ne (de_callB (call_reprU hr) sc_repr T.n_repr (da_cons (de_lst (da_cons (de_xf (K0 := K) (de_ix (de_var 7) de_int)) (da_cons (de_xf (K0 := K) (de_ix (de_var 7) de_int)) (da_cons (de_xf (K0 := K) (de_ix (de_var 7) de_int)) (da_cons (de_xf (K0 := K) (de_ix (de_var 7) de_int)) da_nil))))) da_nil)) (de_callB (call_reprU hr) sc_repr T.n_repr (da_cons (de_lst (da_cons (de_var 4) (da_cons (de_var 5) (da_cons (de_var 5) (da_cons (de_var 6) da_nil))))) da_nil))) (dss_cons (ds_ret de_bl)
    dss_nil) dss_nil)
    (dss_cons (ds_if (dt_not (dt_val (de_call (ok__law_is_caught T) (hr.mono (by decide)) T.g__law_is_caught T.F__law_is_caught.kp (b__law_is_caught T) tk (da_cons (de_var 4) (da_cons (de_var 5) da_nil))))) (dss_cons (ds_ret de_bl)
    dss_nil) dss_nil)
    dss_nil)))))))
    (dss_cons (ds_ret de_bl)
    dss_nil)))), fun rs M Q xw h hl => ?_⟩)
  obtain ⟨ns, rfl, hl, hQ⟩ := h
  refine ⟨ns, rfl, by omega, fun a ha => ⟨⟨by omega, by omega⟩, fun i g' M' => ∃ s3 s4 s5 s6 s7 s8 s9 : Option R, g' = [some (.scr ns), some (.o a), some (.lst dueX), s3, s4, s5, s6, s7, s8, s9] ∧ ∃ n, M' a = some (.dr n) ∧ n ≤ 9 * i, ⟨_, _, _, _, _, _, _, rfl, 0, updM_same, Nat.le_refl _⟩, ?_, ?_⟩⟩
  · rintro i r g' M' hr ⟨s3, s4, s5, s6, s7, s8, s9, rfl, n, hn, hni⟩
    obtain ⟨hi, rfl⟩ := intsFrom_get hr
    refine ⟨⟨by decide, by decide, by decide⟩, a, _, n, rfl, hn, by omega, divOk (by decide) (by decide), fun x x0 x1 => ?_⟩
    refine ⟨a, 40, _, rfl, updM_same, by omega, divOk (by decide) (by decide), fun y y0 y1 => ?_⟩
    rw [updM_updM]
    refine ⟨a, 4, _, rfl, updM_same, by omega, divOk (by decide) (by decide), fun z z0 z1 => ?_⟩
    rw [updM_updM]
    obtain ⟨w, ew, lw, sw⟩ := whatX z0 z1
    have x2 : x.natAbs < 2 ^ 128 := by
      have : x < (1000000000 : Int) := x1
      omega
    have y2 : y.natAbs < 2 ^ 128 := by omega
    refine ⟨_, _, rfl, ew, x, y, w, rfl, x2, y2, by omega, ?_⟩
    refine ⟨fun j g2 M2 => ∃ s8 s9 : Option R, g2 = [some (.scr ns), some (.o a), some (.lst dueX), some (.int (0 + (i : Int))), some (.int x), some (.int y), some (.str w), some (.lst (madeX K x y w)), s8, s9] ∧ M2 = updM M' a (.dr (n + 1 + 1 + 1)), ⟨_, _, rfl, rfl⟩, ?_, ?_⟩
    · rintro j r g2 M2 hr2 ⟨t8, t9, rfl, rfl⟩
      obtain ⟨p, fs, qs, word, rfl, hp, hw, hsw⟩ := made_zip K x y w hr2
      have C := T.x_.c p hp
      refine ⟨rfl, ⟨p, fs, qs, hp, rfl, ?_⟩⟩
      rw [hw]
      obtain ⟨d9, e9, _, _, _, _, sd⟩ := reprD hsw rfl rfl
      refine ⟨d9, d9, .inl e9, .inl e9, sd, sd, ?_⟩
      rw [eqvRefl sd]
      refine ⟨nt, fun _ => ⟨_, _, rfl, C, T.x_.k p hp "BitError" (by decide), ?_⟩⟩
      rw [kBase]
      refine ⟨nt, fun _ => ⟨_, _, rfl, C, T.x_.v p hp, nt, fun _ => ⟨_, _, rfl, rfl⟩⟩⟩
    · rintro g2 M2 ⟨t8, t9, rfl, rfl⟩
      have sh : R.shw (.lst [.int x, .int y, .int y, .str w]) = true := by
        have : (R.str w).shw = true := sw
        simp only [R.shw, R.shws] at this ⊢
        simp [x2, y2, this]
      obtain ⟨d, e, d1, d2, d3, d4, _⟩ := reprD sh rfl rfl
      have B := xc_BadText T
      have U := xc_Unsound T
      refine ⟨_, _, rfl, rfl, _, _, rfl, B, (xi_BadText T).n1, rfl, _, _, rfl, rfl, _, _, rfl, B, (xi_BadText T).n2, rfl, _, _, rfl, rfl, _, _, rfl, U, (xi_Unsound T).n1, rfl, _, _, rfl, rfl, _, _, rfl, U, (xi_Unsound T).n2, rfl, ?_⟩
      refine ⟨d, .inl e, d1, d2, d3, d4, ⟨_, .inr (.inl rfl)⟩, d, .inl e, d1, d2, d3, d4, ⟨_, .inr (.inl rfl)⟩, ?_⟩
      refine ⟨fun e => noNe e, fun _ => ⟨x, y, rfl, x2, y2, fun M3 s3 => ⟨nt, fun _ => ?_⟩⟩⟩
      exact ⟨_, _, _, _, _, _, _, rfl, n + 1 + 1 + 1, s3 a _ updM_same, by omega⟩
  · rintro g' M' ⟨s3, s4, s5, s6, s7, s8, s9, rfl, _⟩
    exact ⟨M', Sub.rfl', hQ M'⟩
end
end DL
open PySem PySem.W PySem.Calls PyProof.Rows
set_option maxHeartbeats 0 in
theorem PySem.Challenge.cw_bitneed_k02_refusals_by_hand_holds : PySem.Challenge.rw_bitneed_k02_refusals_by_hand.Holds := by
  w_on; o_law
  refine HandSHeadRun.head_any (r := OpenLaw.row PySem.Challenge.rw_bitneed_k02_refusals_by_hand) (q := view (OpenLaw.row PySem.Challenge.rw_bitneed_k02_refusals_by_hand).prog [20]) (H := DL.hk) (ob := DL.ob) (M := 12000) (loose := DL.looseN) (d := HandSHeadRun.topDef (OpenLaw.row PySem.Challenge.rw_bitneed_k02_refusals_by_hand).prog 20) (kwd := []) DL.ob_eq
    (by kernel_rfl) (fun s => by kernel_rfl) DL.runE (by kernel_rfl) (by kernel_rfl) (by kernel_rfl) (by rfl) (by first | assumption | decide +kernel) (by decide +kernel) ⟨rfl, rfl, rfl, rfl, rfl, by decide +kernel⟩ ?hw ?hc
  case hw => w_witness2
  case hc =>
    refine DL.walk_G (l := PySem.Challenge.rw_bitneed_k02_refusals_by_hand) (n := 63) (k := 4) (x := "script") rfl (by decide) (by kernel_rfl) ⟨rfl, by decide, by decide⟩ ?F
    intro w mg fa h Y G hmg0
    obtain ⟨K, KX, c⟩ := Y
    have hmg : mg ("law" : PySem.Str) = some (.ref fa) := by
      have e : (HandSHeadRun.topDef (OpenLaw.row PySem.Challenge.rw_bitneed_k02_refusals_by_hand).prog 20).name = ("law" : PySem.Str) := by kernel_rfl
      rw [← e]
      exact hmg0
    obtain ⟨T⟩ := DL.txt_of KX G c
    have e := hmg.symm.trans T.g_law
    cases e
    have b := L2.FunD.bindsA (ps := ["script"]) T.F_law fun _ _ _ _ _ _ us hl => match us, hl with | [_], _ => rfl
    exact ⟨K, T.d_law, _, KX, fun s v => b s [v] rfl, fun ns hl hb => ⟨ns, rfl, hl, fun _ => rfl⟩, fun base _ _ => DL.ok_law T⟩
