import PyProof.Rows.All
import Wide.All
import OpenK.AllK
import Wide.FinOn
import KE.KeyNested
import KE.KDictWalk
import PyProof.DictRoadsH
import PyProof.DictDisplay
import PyProof.DictTable
import HandS.ForMost
import HandS.Exc
import HandS.ExcOwn
import HandS.TryOnly
import HandS.WordsExc
import HandS.Head2
import HandS.HeadHook1
import HandS.Words
import HandS.Wide
import HandS.Style
import HandS.Flow
import HandS.ExcCtx
import PyProof.P3Eq
import HandS.RevRange
import HandS.Rev
import HandS.CallSlots
import HandS.Property
import HandS.IsInst
import HandS.ExcInit
import HandS.ExcField
import HandS.ExcIs
import HandS.HotCalls
import KE.KExcIs
import KE.KDictZip
import HandS.OwnIter
import PyProof.StrBlock2
import HandS.SlotsOwn
import KE.KOpsOwn
import HandS.Replace
import HandS.ExcInitHot
import HandS.IterNext
import HandS.IterVal
import KE.KOwnIter
import KE.KCallOwn
import KE.KRevSl
import KE.KSuper
import HandS.NestedK
import HandS.ClsMeth
import HandS.MakeKwOnly
import HandS.Star
import HandS.HeadEnd
import HandS.Steps
import HandS.Zip
import KE.GoesMore
import KE.KStar
import KE.DataCmp
import HandS.Conv
import HandS.TupLen
import HandS.SortInts
import HandS.Finally
import HandS.Deep
import HandS.OwnEq
import HandS.Defaults
import HandS.GenList
import HandS.SetFor
import HandS.FStr
import HandS.Text
import HandS.StrMore
import HandS.ExcValue
import PyProof.SeqRoads2
import HandS.MakeKw
import PyProof.StrLawsIn
import PySem.Challenge.RW_siltmeet_k10_record_floods
set_option Elab.async false
set_option linter.all false
set_option maxRecDepth 100000
namespace PySem
open Sem (wp)
open SeqAt
def notText : NestedKey → Bool
  | .text _ => false
  | _ => true
/-- the value is the key -/
def KeyIs (h : Heap) (k : NestedKey) (v : Value) : Prop := NestedIs h k v ∧ k.depth ≤ 8 ∧ notText k = true
def entV (w : World) (x : NestedKey × Value × Value) : DictEntry := ⟨x.1.hash w, x.2.1, x.2.2⟩
theorem KeyIs.at {h h' : Heap} {k : NestedKey} {v : Value} (hk : ∀ a o vs n, h.get? a = some o → o.data = .seq vs n → h'.get? a = some o) (x : KeyIs h k v) : KeyIs h' k v := ⟨NestedIs.at hk _ _ x.1, x.2⟩
section
variable {prog : Program} {w : World} {A : Around} {E : Value → Shared → Prop} {s : Shared} {d : Addr} {o : Obj} {es : Array DictEntry} {ep : Nat} {xs : List (NestedKey × Value × Value)} {k : NestedKey} {key : Value}
def DictV (w : World) (h : Heap) (d : Addr) (xs : List (NestedKey × Value × Value)) : Prop :=
  ∃ o es ep, h.get? d = some o ∧ o.ExactDict ∧ o.data = .dict es ep ∧ es.toList = xs.map (entV w) ∧ (∀ x ∈ xs, KeyIs h x.1 x.2.1) ∧ (xs.map (·.1)).Nodup
theorem DictV.keep {h h' : Heap} (hm : DictV w h d xs) (hk : ∀ b o, h.get? b = some o → h'.get? b = some o) : DictV w h' d xs := by
  obtain ⟨o, es, ep, ho, hc, hd, he, his, hn⟩ := hm
  exact ⟨o, es, ep, hk _ _ ho, hc, hd, he, fun x hx => (his x hx).at (fun a o _ _ e _ => hk a o e), hn⟩
theorem KeyIs.keeps {h h' : Heap} {k : NestedKey} {v : Value} (x : KeyIs h k v) (ho : h.get? d = some o) (hd : o.data = .dict es ep) (hs : Heap.SameBut d h h') : KeyIs h' k v :=
  x.at (fun b ob vs n hb hc => by
    refine (hs.2 b fun e => ?_).trans hb
    subst e
    rw [ho] at hb
    cases hb
    rw [hd] at hc
    cases hc)
theorem DictV.new (h : Heap) : DictV w (h.push { cls := .type "dict", data := .dict #[] }) h.objs.size [] :=
  ⟨_, #[], 0, Heap.get?_push_size _ rfl, ⟨rfl, rfl, rfl⟩, rfl, rfl, fun _ hx => by simp at hx, List.nodup_nil⟩
end
end PySem
set_option Elab.async false
set_option linter.all false
set_option maxRecDepth 100000
namespace ZZ
open PySem PySem.Spec L2
inductive D where
  | non | bl (b : Bool) | int (i : Int) | str (s : Str)
  | tup (xs : List D) | lst (xs : List D)
  | ins (c : Nat) (xs : List D)
  | wl (xs : List D)
  | dct (ks vs : List D)
mutual
/-- a tree as a dict's key -/
def nk : D → Option NestedKey
  | .non => some .none
  | .bl b => some (.num (if b = true then 1 else 0))
  | .int i => some (.num i)
  | .str s => some (.text s)
  | .tup ds => (nks ds).map .tup
  | .lst _ => none
  | .ins _ _ => none
  | .wl _ => none
  | .dct _ _ => none
def nks : List D → Option (List NestedKey)
  | [] => some []
  | d :: ds => match nk d, nks ds with
    | some k, some ks => some (k :: ks)
    | _, _ => none
end
/-- a class's address; the exception that a suite holds -/
structure Zx where
  K : PySem.W.Frag
  cl : Nat → Addr
  fl : Nat → List Str
  wd : World
/-- the dict at a has these entries -/
def rawV (w : World) (a : Addr) (xs : List (NestedKey × Value × Value)) (ep : Nat) (h : Heap) : Prop := ∃ o es, h.get? a = some o ∧ o.ExactDict ∧ o.data = .dict es ep ∧ es.toList = xs.map (entV w)
/-- keys, values, entries -/
def Ent3 : List D → List V → List V → List (NestedKey × Value × Value) → Prop
  | [], [], [], [] => True
  | k :: ks, x :: kvs, y :: vvs, e :: xs => nk k = some e.1 ∧ e.1.depth ≤ 8 ∧ notText e.1 = true ∧ RelV x e.2.1 ∧ RelV y e.2.2 ∧ Ent3 ks kvs vvs xs
  | _, _, _, _ => False
/-- a dict's shape -/
def DShape (w : World) (ks : List D) (kvs vvs : List V) (a : Addr) (o : HO) : Prop := (a == sysModules) = false ∧ ks.length ≤ 16777216 ∧ ∃ xs ep, o = .ext (rawV w a xs ep) ∧ Ent3 ks kvs vvs xs ∧ (xs.map (·.1)).Nodup
structure Zy extends Zx where
  hd : Option (Addr × Nat × Option Addr)
mutual
def Rep (Z : Zx) (F : Hp) : D → V → Prop
  | .non, v => v = .non
  | .bl b, v => v = .bl b
  | .int i, v => v = .int i
  | .str s, v => v = .str s
  | .tup ds, v => ∃ a vs, v = .ref a ∧ SqT Z.K F a vs ∧ Reps Z F ds vs
  | .lst ds, v => ∃ a vs, v = .ref a ∧ F a = some (.lst vs) ∧ Reps Z F ds vs
  | .ins c ds, v => ∃ a dx fs, v = .ref a ∧ F a = some (.ins (Z.cl c) dx fs) ∧ fs.map (·.1) = Z.fl c ∧ Reps Z F ds (fs.map (·.2))
  | .wl ds, v => ∃ a vs, v = .ref a ∧ SqL Z.K F a vs ∧ Reps Z F ds vs
  | .dct ks vs, v => ∃ a o kvs vvs, v = .ref a ∧ F a = some o ∧ DShape Z.wd ks kvs vvs a o ∧ Reps Z F ks kvs ∧ Reps Z F vs vvs
def Reps (Z : Zx) (F : Hp) : List D → List V → Prop
  | [], vs => vs = []
  | d :: ds, vs => ∃ v r, vs = v :: r ∧ Rep Z F d v ∧ Reps Z F ds r
end
theorem same_seqT {K : PySem.W.Frag} {H H' : Hp} {a : Addr} {xs : List V} (e : Same H H') (h : SqT K H a xs) : SqT K H' a xs := by
  rcases h with (h | ⟨o, h⟩) | h
  · exact .inl (.inl (e _ _ h))
  · exact .inl (.inr ⟨o, e _ _ h⟩)
  · exact .inr h
section
variable {Z : Zx} {F F' : Hp}
mutual
theorem Rep.mono (e : Same F F') : ∀ {d : D} {v : V}, Rep Z F d v → Rep Z F' d v
  | .non, _, h => h
  | .bl _, _, h => h
  | .int _, _, h => h
  | .str _, _, h => h
  | .tup ds, v, h => by
    unfold Rep at h ⊢
    obtain ⟨a, vs, h1, h2, h3⟩ := h
    exact ⟨a, vs, h1, same_seqT e h2, Reps.mono e h3⟩
  | .lst ds, v, h => by
    unfold Rep at h ⊢
    obtain ⟨a, vs, h1, h2, h3⟩ := h
    exact ⟨a, vs, h1, e _ _ h2, Reps.mono e h3⟩
  | .ins c ds, v, h => by
    unfold Rep at h ⊢
    obtain ⟨a, dx, fs, h1, h2, h3, h4⟩ := h
    exact ⟨a, dx, fs, h1, e _ _ h2, h3, Reps.mono e h4⟩
  | .wl ds, v, h => by
    unfold Rep at h ⊢
    obtain ⟨a, vs, h1, h2, h3⟩ := h
    exact ⟨a, vs, h1, e.seq h2, Reps.mono e h3⟩
  | .dct ks vs, v, h => by
    unfold Rep at h ⊢
    obtain ⟨a, o, kvs, vvs, h1, h2, h3, h4, h5⟩ := h
    exact ⟨a, o, kvs, vvs, h1, e _ _ h2, h3, Reps.mono e h4, Reps.mono e h5⟩
theorem Reps.mono (e : Same F F') : ∀ {ds : List D} {vs : List V}, Reps Z F ds vs → Reps Z F' ds vs
  | [], _, h => h
  | d :: ds, vs, h => by
    unfold Reps at h ⊢
    obtain ⟨v, r, h1, h2, h3⟩ := h
    exact ⟨v, r, h1, Rep.mono e h2, Reps.mono e h3⟩
end
theorem reps_nil : Reps Z F [] [] := by unfold Reps; rfl
theorem reps_cons {d : D} {v : V} {ds : List D} {vs : List V} (h : Rep Z F d v) (h' : Reps Z F ds vs) : Reps Z F (d :: ds) (v :: vs) := by
  unfold Reps
  exact ⟨v, vs, rfl, h, h'⟩
theorem reps_cons_inv {d : D} {ds : List D} {vs : List V} (h : Reps Z F (d :: ds) vs) : ∃ v r, vs = v :: r ∧ Rep Z F d v ∧ Reps Z F ds r := by
  unfold Reps at h
  exact h
theorem reps_nil_inv {vs : List V} (h : Reps Z F [] vs) : vs = [] := by
  unfold Reps at h
  exact h
theorem Reps.length : ∀ {ds : List D} {vs : List V}, Reps Z F ds vs → ds.length = vs.length
  | [], _, h => by
    rw [reps_nil_inv h]
    rfl
  | d :: ds, vs, h => by
    obtain ⟨v, r, rfl, _, h3⟩ := reps_cons_inv h
    simp [Reps.length h3]
theorem Reps.get' : ∀ {ds : List D} {vs : List V} {i : Nat} {d : D}, Reps Z F ds vs → ds[i]? = some d → ∃ v, vs[i]? = some v ∧ Rep Z F d v
  | [], _, i, v, h, e => by simp at e
  | d :: ds, vs, 0, v, h, e => by
    obtain ⟨w, r, rfl, h2, h3⟩ := reps_cons_inv h
    simp at e
    subst e
    exact ⟨w, rfl, h2⟩
  | d :: ds, vs, i + 1, v, h, e => by
    obtain ⟨w, r, rfl, h2, h3⟩ := reps_cons_inv h
    obtain ⟨d', e1, e2⟩ := Reps.get' (i := i) h3 (by simpa using e)
    exact ⟨d', by simpa using e1, e2⟩
theorem Reps.append : ∀ {ds es : List D} {vs ws : List V}, Reps Z F ds vs → Reps Z F es ws → Reps Z F (ds ++ es) (vs ++ ws)
  | [], es, vs, ws, h, h' => by
    rw [reps_nil_inv h]
    exact h'
  | d :: ds, es, vs, ws, h, h' => by
    obtain ⟨v, r, rfl, h2, h3⟩ := reps_cons_inv h
    exact reps_cons h2 (Reps.append h3 h')
theorem Reps.take : ∀ {ds : List D} {vs : List V} (n : Nat), Reps Z F ds vs → Reps Z F (ds.take n) (vs.take n)
  | _, _, 0, _ => by simp [reps_nil]
  | [], vs, n + 1, h => by
    rw [reps_nil_inv h]
    simp [reps_nil]
  | d :: ds, vs, n + 1, h => by
    obtain ⟨v, r, rfl, h2, h3⟩ := reps_cons_inv h
    exact reps_cons h2 (Reps.take n h3)
theorem Reps.drop : ∀ {ds : List D} {vs : List V} (n : Nat), Reps Z F ds vs → Reps Z F (ds.drop n) (vs.drop n)
  | _, _, 0, h => by simpa using h
  | [], vs, n + 1, h => by
    rw [reps_nil_inv h]
    simp [reps_nil]
  | d :: ds, vs, n + 1, h => by
    obtain ⟨v, r, rfl, h2, h3⟩ := reps_cons_inv h
    simpa using Reps.drop n h3
theorem Reps.reverse : ∀ {ds : List D} {vs : List V}, Reps Z F ds vs → Reps Z F ds.reverse vs.reverse
  | [], vs, h => by
    rw [reps_nil_inv h]
    simp [reps_nil]
  | d :: ds, vs, h => by
    obtain ⟨v, r, rfl, h2, h3⟩ := reps_cons_inv h
    rw [List.reverse_cons, List.reverse_cons]
    exact Reps.append (Reps.reverse h3) (reps_cons h2 reps_nil)
theorem Reps.set : ∀ {ds : List D} {vs : List V} {d : D} {v : V} (i : Nat), Reps Z F ds vs → Rep Z F d v → Reps Z F (ds.set i d) (vs.set i v)
  | [], vs, _, _, i, h, _ => by
    rw [reps_nil_inv h]
    simp [reps_nil]
  | d :: ds, vs, _, _, 0, h, h' => by
    obtain ⟨v, r, rfl, h2, h3⟩ := reps_cons_inv h
    exact reps_cons h' h3
  | d :: ds, vs, _, _, i + 1, h, h' => by
    obtain ⟨v, r, rfl, h2, h3⟩ := reps_cons_inv h
    exact reps_cons h2 (Reps.set i h3 h')
theorem Reps.eraseIdx : ∀ {ds : List D} {vs : List V} (i : Nat), Reps Z F ds vs → Reps Z F (ds.eraseIdx i) (vs.eraseIdx i)
  | [], vs, i, h => by
    rw [reps_nil_inv h]
    simp [reps_nil]
  | d :: ds, vs, 0, h => by
    obtain ⟨v, r, rfl, h2, h3⟩ := reps_cons_inv h
    simpa using h3
  | d :: ds, vs, i + 1, h => by
    obtain ⟨v, r, rfl, h2, h3⟩ := reps_cons_inv h
    simpa using reps_cons h2 (Reps.eraseIdx i h3)
end
inductive Val where
  | im (d : D) | cell (k : Nat) | exn (c : Nat) (ds : List D)
inductive Cell where
  | dead | lst (ds : List D) | ins (c : Nat) (ds : List D) | ptr (ks : List Nat) | dct (ks vs : List D) | rws (rows : List (List D))
def ExcOk (Z : Zx) (F : Hp) (c : Nat) (ds : List D) (dx : Option Addr) : Prop :=
  (ds = [] ∧ dx = none) ∨ ∃ d fs, dx = some d ∧ F d = some (.xd fs) ∧ fs.map (·.1) = Z.fl c ∧ Reps Z F ds (fs.map (·.2))
/-- at a: an exception made by hand, its dict at dx -/
def xoV (a C : Addr) (dx : Option Addr) : HO := .ext fun h => ∃ (o : Obj) (vs : Array Value), h.get? a = some o ∧ o.cls = .ref C ∧ o.dict = dx ∧ o.data = .fields vs
def VRep (Z : Zy) (A : List Addr) (F : Hp) : Val → V → Prop
  | .im d, v => Rep Z.toZx F d v
  | .cell k, v => ∃ a, A[k]? = some a ∧ v = .ref a
  | .exn c ds, v => (c < 1000 ∧ ∃ a dx, Z.hd = some (a, c, dx) ∧ v = .ref a ∧ ExcOk Z.toZx F c ds dx) ∨ (1000 ≤ c ∧ ∃ a dx, v = .ref a ∧ F a = some (xoV a (Z.cl (c - 1000)) dx) ∧ ExcOk Z.toZx F (c - 1000) ds dx)
/-- the cells ks stand at bs, all below k -/
def PtrL (A : List Addr) (k : Nat) : List Nat → List Addr → Prop
  | [], bs => bs = []
  | j :: js, bs => ∃ b t, bs = b :: t ∧ j < k ∧ A[j]? = some b ∧ PtrL A k js t
/-- rows of their own, at bs: nobody else holds them -/
def RowsOk (Z : Zx) (A : List Addr) (F H : Hp) : List (List D) → List Addr → Prop
  | [], bs => bs = []
  | r :: rs, bs => ∃ b t vs, bs = b :: t ∧ F b = none ∧ b ∉ A ∧ b ∉ t ∧ H b = some (.lst vs) ∧ Reps Z F r vs ∧ RowsOk Z A F H rs t
def CellOk (Z : Zx) (A : List Addr) (F H : Hp) (a : Addr) : Cell → Prop
  | .dead => ∃ o, H a = some o
  | .lst ds => F a = none ∧ ∃ vs, H a = some (.lst vs) ∧ Reps Z F ds vs
  | .ins c ds => F a = none ∧ ∃ dx fs, H a = some (.ins (Z.cl c) dx fs) ∧ fs.map (·.1) = (Z.fl c).take ds.length ∧ Reps Z F ds (fs.map (·.2))
  | .ptr ks => F a = none ∧ ∃ k bs, A[k]? = some a ∧ H a = some (.lst (bs.map V.ref)) ∧ PtrL A k ks bs
  | .dct ks vs => F a = none ∧ ∃ o kvs vvs, H a = some o ∧ DShape Z.wd ks kvs vvs a o ∧ Reps Z F ks kvs ∧ Reps Z F vs vvs
  | .rws rows => F a = none ∧ ∃ bs, H a = some (.lst (bs.map V.ref)) ∧ RowsOk Z A F H rows bs
/-- the store: F what never changes any more, A the cells' addresses -/
structure SO (Z : Zx) (A : List Addr) (F : Hp) (ce : List Cell) (H : Hp) : Prop where
  sub : Same F H
  len : A.length = ce.length
  nd : A.Nodup
  ok : ∀ (k : Nat) (a : Addr) (c : Cell), A[k]? = some a → ce[k]? = some c → CellOk Z A F H a c
abbrev Sl : Type := List (Option Val)
structure SL (Z : Zy) (A : List Addr) (F : Hp) (sl : Sl) (σ : St) : Prop where
  len : sl.length = σ.length
  is : ∀ (i : Nat) (v : Val), sl[i]? = some (some v) → ∃ x, σ[i]? = some (some x) ∧ VRep Z A F v x
section
variable {Z : Zx} {A A' : List Addr} {F F' H : Hp} {ce : List Cell} {sl : Sl} {σ : St}
theorem ExcOk.mono {c ds dx} (e : Same F F') (h : ExcOk Z F c ds dx) : ExcOk Z F' c ds dx := by
  rcases h with h | ⟨d, fs, h1, h2, h3, h4⟩
  · exact .inl h
  · exact .inr ⟨d, fs, h1, e _ _ h2, h3, h4.mono e⟩
theorem pre_get {k : Nat} {a : Addr} (p : A <+: A') (h : A[k]? = some a) : A'[k]? = some a := by
  obtain ⟨t, rfl⟩ := p
  have := (List.getElem?_eq_some_iff.mp h).1
  rw [List.getElem?_append_left this]
  exact h
theorem VRep.mono {Z : Zy} {v : Val} {x : V} (p : A <+: A') (e : Same F F') (h : VRep Z A F v x) : VRep Z A' F' v x := by
  cases v with
  | im d => exact Rep.mono e h
  | cell k =>
    obtain ⟨a, h1, h2⟩ := h
    exact ⟨a, pre_get p h1, h2⟩
  | exn c ds =>
    rcases h with ⟨h0, a, dx, h1, h2, h3⟩ | ⟨h0, a, dx, h1, h2, h3⟩
    · exact .inl ⟨h0, a, dx, h1, h2, h3.mono e⟩
    · exact .inr ⟨h0, a, dx, h1, e _ _ h2, h3.mono e⟩
theorem SL.mono {Z : Zy} (p : A <+: A') (e : Same F F') (h : SL Z A F sl σ) : SL Z A' F' sl σ :=
  ⟨h.len, fun i v q => let ⟨x, h1, h2⟩ := h.is i v q; ⟨x, h1, h2.mono p e⟩⟩
theorem SL.set {Z : Zy} {i : Nat} {v : Val} {x : V} (h : SL Z A F sl σ) (hv : VRep Z A F v x) : SL Z A F (sl.set i (some v)) (σ.set i (some x)) := by
  refine ⟨by simp [h.len], fun j w q => ?_⟩
  by_cases hj : i = j
  · subst hj
    by_cases hl : i < sl.length
    · rw [List.getElem?_set_self hl] at q
      cases q
      refine ⟨x, ?_, hv⟩
      rw [List.getElem?_set_self (by rw [← h.len]; exact hl)]
    · rw [List.getElem?_eq_none (by simpa using hl)] at q
      cases q
  · rw [List.getElem?_set_ne hj] at q
    obtain ⟨y, h1, h2⟩ := h.is j w q
    exact ⟨y, by rw [List.getElem?_set_ne hj]; exact h1, h2⟩
theorem SL.gone {Z : Zy} {i : Nat} (h : SL Z A F sl σ) : SL Z A F (sl.set i none) (σ.set i none) := by
  refine ⟨by simp [h.len], fun j w q => ?_⟩
  by_cases hj : i = j
  · subst hj
    by_cases hl : i < sl.length
    · rw [List.getElem?_set_self hl] at q
      cases q
    · rw [List.getElem?_eq_none (by simpa using hl)] at q
      cases q
  · rw [List.getElem?_set_ne hj] at q
    rw [List.getElem?_set_ne hj]
    exact h.is j w q
theorem SO.tracked (s : SO Z A F ce H) {k : Nat} {a : Addr} (h : A[k]? = some a) : ∃ o, H a = some o := by
  have hl : k < ce.length := by rw [← s.len]; exact (List.getElem?_eq_some_iff.mp h).1
  have := s.ok k a ce[k] h (List.getElem?_eq_getElem hl)
  cases hc : ce[k] with
  | dead => rw [hc] at this; exact this
  | lst ds => rw [hc] at this; obtain ⟨_, vs, h1, _⟩ := this; exact ⟨_, h1⟩
  | ins c ds => rw [hc] at this; obtain ⟨_, dx, fs, h1, _⟩ := this; exact ⟨_, h1⟩
  | ptr ks => rw [hc] at this; obtain ⟨_, k, bs, _, h1, _⟩ := this; exact ⟨_, h1⟩
  | dct ks vs => rw [hc] at this; obtain ⟨_, o, kvs, vvs, h1, _⟩ := this; exact ⟨_, h1⟩
  | rws rows => rw [hc] at this; obtain ⟨_, bs, h1, _⟩ := this; exact ⟨_, h1⟩
theorem RowsOk.mono {H' : Hp} (e : Same F F') (hb : ∀ b, b ∉ A → F b = none → (∃ o, H b = some o) → H' b = H b ∧ F' b = none ∧ b ∉ A') : ∀ {rows : List (List D)} {bs : List Addr}, RowsOk Z A F H rows bs → RowsOk Z A' F' H' rows bs
  | [], bs, h => h
  | r :: rs, bs, ⟨b, t, vs, e1, h1, h2, h3, h4, h5, h6⟩ => by
    obtain ⟨q1, q2, q3⟩ := hb b h2 h1 ⟨_, h4⟩
    exact ⟨b, t, vs, e1, q2, q3, h3, q1.trans h4, h5.mono e, RowsOk.mono e hb h6⟩
theorem PtrL.mono {k : Nat} (p : A <+: A') : ∀ {ks : List Nat} {bs : List Addr}, PtrL A k ks bs → PtrL A' k ks bs
  | [], bs, h => h
  | j :: js, bs, ⟨b, t, e, h1, h2, h3⟩ => ⟨b, t, e, h1, pre_get p h2, PtrL.mono p h3⟩
theorem SO.fnone (s : SO Z A F ce H) {p : Addr} (hp : H p = none) : F p = none := by
  cases e : F p with
  | none => rfl
  | some o => rw [s.sub _ _ e] at hp; cases hp
theorem same_up {p : Addr} {o : HO} (h : F p = none) : Same F (upd F p o) := fun b x e => by
  rw [upd_ne (ne_of_none e h)]
  exact e
theorem CellOk.mono {a : Addr} {c : Cell} {H' : Hp} (p : A <+: A') (e : Same F F') (h : CellOk Z A F H a c) (hH : H' a = H a) (hF : F a = none → F' a = none) (hb : ∀ b, b ∉ A → F b = none → (∃ o, H b = some o) → H' b = H b ∧ F' b = none ∧ b ∉ A') : CellOk Z A' F' H' a c := by
  cases c with
  | dead => obtain ⟨o, h⟩ := h; exact ⟨o, by rw [hH]; exact h⟩
  | lst ds => obtain ⟨h0, vs, h1, h2⟩ := h; exact ⟨hF h0, vs, by rw [hH]; exact h1, h2.mono e⟩
  | ins c ds => obtain ⟨h0, dx, fs, h1, h2, h3⟩ := h; exact ⟨hF h0, dx, fs, by rw [hH]; exact h1, h2, h3.mono e⟩
  | ptr ks => obtain ⟨h0, k, bs, h1, h2, h3⟩ := h; exact ⟨hF h0, k, bs, pre_get p h1, by rw [hH]; exact h2, h3.mono p⟩
  | dct ks vs => obtain ⟨h0, o, kvs, vvs, h1, h2, h3, h4⟩ := h; exact ⟨hF h0, o, kvs, vvs, by rw [hH]; exact h1, h2, h3.mono e, h4.mono e⟩
  | rws rows => obtain ⟨h0, bs, h1, h2⟩ := h; exact ⟨hF h0, bs, by rw [hH]; exact h1, h2.mono e hb⟩
theorem SO.new (s : SO Z A F ce H) {p : Addr} {o : HO} (hp : H p = none) : SO Z A (upd F p o) ce (upd H p o) := by
  have fp := s.fnone hp
  refine ⟨fun b x e => ?_, s.len, s.nd, fun k a c h1 h2 => ?_⟩
  · by_cases hb : b = p
    · subst hb
      rw [upd_same] at e ⊢
      exact e
    · rw [upd_ne hb] at e ⊢
      exact s.sub _ _ e
  · obtain ⟨u, hu⟩ := s.tracked h1
    have hne : a ≠ p := ne_of_none hu hp
    exact (s.ok k a c h1 h2).mono (List.prefix_refl _) (same_up fp) (upd_ne hne) (fun h => by rw [upd_ne hne]; exact h) fun b n1 n2 ⟨o, n3⟩ => have z := ne_of_none n3 hp; ⟨upd_ne z, (upd_ne z).trans n2, n1⟩
theorem SO.newCell (s : SO Z A F ce H) {p : Addr} {o : HO} {c : Cell} (hp : H p = none) (hc : CellOk Z (A ++ [p]) F (upd H p o) p c) : SO Z (A ++ [p]) F (ce ++ [c]) (upd H p o) := by
  refine ⟨fun b x e => ?_, by simp [s.len], ?_, fun k a d h1 h2 => ?_⟩
  · rw [upd_ne (ne_of_none (s.sub _ _ e) hp)]
    exact s.sub _ _ e
  · refine List.nodup_append.mpr ⟨s.nd, by simp, fun a ha b hb e => ?_⟩
    simp at hb
    subst hb
    subst e
    obtain ⟨k, hk⟩ := List.getElem?_of_mem ha
    obtain ⟨u, hu⟩ := s.tracked hk
    rw [hp] at hu
    cases hu
  · by_cases hk : k < A.length
    · rw [List.getElem?_append_left hk] at h1
      rw [List.getElem?_append_left (by rw [← s.len]; exact hk)] at h2
      obtain ⟨u, hu⟩ := s.tracked h1
      exact (s.ok k a d h1 h2).mono (List.prefix_append _ _) (Same.refl _) (upd_ne (ne_of_none hu hp)) id fun b n1 n2 ⟨o, n3⟩ => have z := ne_of_none n3 hp; ⟨upd_ne z, n2, fun y => by rcases List.mem_append.mp y with y | y; exact n1 y; exact z (List.mem_singleton.mp y)⟩
    · rw [List.getElem?_append_right (by omega)] at h1
      rw [List.getElem?_append_right (by rw [← s.len]; omega), ← s.len] at h2
      have : k - A.length = 0 := by
        have := (List.getElem?_eq_some_iff.mp h1).1
        simp at this
        omega
      rw [this] at h1 h2
      simp at h1 h2
      subst h1 h2
      exact hc
theorem SO.write (s : SO Z A F ce H) {k : Nat} {a : Addr} {o : HO} {c : Cell} (hk : A[k]? = some a) (hf : F a = none) (hc : CellOk Z A F (upd H a o) a c) : SO Z A F (ce.set k c) (upd H a o) := by
  refine ⟨fun b x e => ?_, by simp [s.len], s.nd, fun j b d h1 h2 => ?_⟩
  · rw [upd_ne (ne_of_none e hf)]
    exact s.sub _ _ e
  · by_cases hj : k = j
    · subst hj
      rw [hk] at h1
      cases h1
      have hl : k < ce.length := by rw [← s.len]; exact (List.getElem?_eq_some_iff.mp hk).1
      rw [List.getElem?_set_self hl] at h2
      cases h2
      exact hc
    · rw [List.getElem?_set_ne hj] at h2
      have hne : b ≠ a := fun e => by
        subst e
        exact hj ((List.getElem?_inj (List.getElem?_eq_some_iff.mp hk).1 s.nd).mp (hk.trans h1.symm))
      exact (s.ok j b d h1 h2).mono (List.prefix_refl _) (Same.refl _) (upd_ne hne) id fun b n1 n2 n3 => ⟨upd_ne fun z => n1 (by rw [z]; exact List.mem_of_getElem? hk), n2, n1⟩
theorem SO.freeze (s : SO Z A F ce H) {k : Nat} {a : Addr} {o : HO} (hk : A[k]? = some a) (hf : F a = none) (ho : H a = some o) : SO Z A (upd F a o) (ce.set k .dead) H := by
  refine ⟨fun b x e => ?_, by simp [s.len], s.nd, fun j b d h1 h2 => ?_⟩
  · by_cases hb : b = a
    · subst hb
      rw [upd_same] at e
      cases e
      exact ho
    · rw [upd_ne hb] at e
      exact s.sub _ _ e
  · by_cases hj : k = j
    · subst hj
      rw [hk] at h1
      cases h1
      have hl : k < ce.length := by rw [← s.len]; exact (List.getElem?_eq_some_iff.mp hk).1
      rw [List.getElem?_set_self hl] at h2
      cases h2
      exact ⟨o, ho⟩
    · rw [List.getElem?_set_ne hj] at h2
      have hne : b ≠ a := fun e => by
        subst e
        exact hj ((List.getElem?_inj (List.getElem?_eq_some_iff.mp hk).1 s.nd).mp (hk.trans h1.symm))
      exact (s.ok j b d h1 h2).mono (List.prefix_refl _) (same_up hf) rfl (fun h => by rw [upd_ne hne]; exact h) fun b n1 n2 n3 => ⟨rfl, (upd_ne fun z => n1 (by rw [z]; exact List.mem_of_getElem? hk)).trans n2, n1⟩
end
inductive EOut where
  | ok (v : Val) (ce : List Cell) | exc (c : Nat) (ds : List D) (ce : List Cell) | stuck
abbrev DE := Sl → List Cell → EOut
def PostE (Z : Zy) (A : List Addr) (F : Hp) (W : WX) (σ : St) (Q : VK) : EOut → Prop
  | .ok v ce => ∀ A' F' H' x, A <+: A' → Same F F' → SO Z.toZx A' F' ce H' → VRep Z A' F' v x → Q x H'
  | .exc c ds ce => ∀ A' F' H' dx, A <+: A' → Same F F' → SO Z.toZx A' F' ce H' → ExcOk Z.toZx F' c ds dx → W (.ref (Z.cl c)) dx σ H'
  | .stuck => False
def tE (Z : Zy) (W : WX) (f : DE) : TE := fun σ H Q => ∃ A F sl ce, SO Z.toZx A F ce H ∧ SL Z A F sl σ ∧ PostE Z A F W σ Q (f sl ce)
def eBind (f : DE) (k : Val → DE) : DE := fun sl ce => match f sl ce with
  | .ok v ce' => k v sl ce'
  | .exc c ds ce' => .exc c ds ce'
  | .stuck => .stuck
section
variable {Z : Zy} {A A' : List Addr} {F F' H : Hp} {ce : List Cell} {sl : Sl} {σ : St} {W : WX} {Q Q' : VK}
theorem PostE.mono {r : EOut} (p : A <+: A') (e : Same F F') (h : PostE Z A F W σ Q r) : PostE Z A' F' W σ Q r := by
  cases r with
  | ok v ce => exact fun A2 F2 H2 x p2 e2 => h A2 F2 H2 x (p.trans p2) (e.trans e2)
  | exc c ds ce => exact fun A2 F2 H2 x p2 e2 => h A2 F2 H2 x (p.trans p2) (e.trans e2)
  | stuck => exact h
theorem PostE.imp {r : EOut} (hq : ∀ x H, Q x H → Q' x H) (h : PostE Z A F W σ Q r) : PostE Z A F W σ Q' r := by
  cases r with
  | ok v ce => exact fun A2 F2 H2 x p2 e2 s r => hq _ _ (h A2 F2 H2 x p2 e2 s r)
  | exc c ds ce => exact h
  | stuck => exact h
/-- the state behind: grown, with the store -/
theorem PostE.bind {f : DE} {k : Val → DE} (so : SO Z.toZx A F ce H) (hs : SL Z A F sl σ) (h : PostE Z A F W σ Q (eBind f k sl ce)) :
    PostE Z A F W σ (fun x H1 => ∃ A1 F1 ce1 v, A <+: A1 ∧ Same F F1 ∧ SO Z.toZx A1 F1 ce1 H1 ∧ VRep Z A1 F1 v x ∧ PostE Z A1 F1 W σ Q (k v sl ce1)) (f sl ce) := by
  unfold eBind at h
  cases e : f sl ce with
  | ok v ce1 =>
    rw [e] at h
    exact fun A1 F1 H1 x p1 e1 s1 r1 => ⟨A1, F1, ce1, v, p1, e1, s1, r1, PostE.mono p1 e1 h⟩
  | exc c ds ce1 =>
    rw [e] at h
    exact h
  | stuck =>
    rw [e] at h
    exact h.elim
theorem tE_imp {f : DE} (hq : ∀ x H, Q x H → Q' x H) (h : tE Z W f σ H Q) : tE Z W f σ H Q' := by
  obtain ⟨A, F, sl, ce, so, hs, p⟩ := h
  exact ⟨A, F, sl, ce, so, hs, p.imp hq⟩
/-- one operand -/
theorem tE1 {f : DE} {k : Val → DE} (h : tE Z W (eBind f k) σ H Q) :
    tE Z W f σ H fun x H1 => ∃ A F sl ce v, SO Z.toZx A F ce H1 ∧ SL Z A F sl σ ∧ VRep Z A F v x ∧ PostE Z A F W σ Q (k v sl ce) := by
  obtain ⟨A, F, sl, ce, so, hs, p⟩ := h
  refine ⟨A, F, sl, ce, so, hs, (PostE.bind so hs p).imp fun x H1 ⟨A1, F1, ce1, v, p1, e1, s1, r1, q1⟩ => ⟨A1, F1, sl, ce1, v, s1, hs.mono p1 e1, r1, q1⟩⟩
/-- two operands -/
theorem tE2 {f g : DE} {k : Val → Val → DE} (h : tE Z W (eBind f fun v => eBind g (k v)) σ H Q) :
    tE Z W f σ H fun x H1 => tE Z W g σ H1 fun y H2 => ∃ A F sl ce v u, SO Z.toZx A F ce H2 ∧ SL Z A F sl σ ∧ VRep Z A F v x ∧ VRep Z A F u y ∧ PostE Z A F W σ Q (k v u sl ce) := by
  refine tE_imp (fun x H1 ⟨A, F, sl, ce, v, so, hs, r, p⟩ => ?_) (tE1 h)
  refine ⟨A, F, sl, ce, so, hs, (PostE.bind so hs p).imp fun y H2 ⟨A1, F1, ce1, u, p1, e1, s1, r1, q1⟩ => ⟨A1, F1, sl, ce1, v, u, s1, hs.mono p1 e1, r.mono p1 e1, r1, q1⟩⟩
end
theorem _root_.L2.PE.weak {X : Cx} {e : Expr} {t t' : TE} (h : PE X e t) (hw : ∀ σ H Q, t' σ H Q → t σ H Q) : PE X e t' :=
  ⟨fun pins s σ H Q I q => h.run pins s σ H Q I (hw σ H Q q)⟩
theorem _root_.L2.PT.weak {X : Cx} {e : Expr} {t t' : TT} (h : PT X e t) (hw : ∀ σ H Q, t' σ H Q → t σ H Q) : PT X e t' :=
  ⟨fun pins s σ H Q I q => h.run pins s σ H Q I (hw σ H Q q)⟩
theorem _root_.L2.PA.weak {X : Cx} {e : List Expr} {t t' : TA} (h : PA X e t) (hw : ∀ σ H Q, t' σ H Q → t σ H Q) : PA X e t' :=
  ⟨fun pos pins s σ H Q I q => h.run pos pins s σ H Q I (hw σ H Q q)⟩
theorem _root_.L2.PS.weak {X : Cx} {e : Stmt} {t t' : TS} (h : PS X e t) (hw : ∀ D σ H, t' D σ H → t D σ H) : PS X e t' :=
  ⟨fun pins s σ H D I q => h.run pins s σ H D I (hw D σ H q)⟩
theorem _root_.L2.PSs.weak {X : Cx} {e : List Stmt} {t t' : TS} (h : PSs X e t) (hw : ∀ D σ H, t' D σ H → t D σ H) : PSs X e t' :=
  ⟨fun pins s σ H D I q => h.run pins s σ H D I (hw D σ H q)⟩
end ZZ
set_option Elab.async false
set_option linter.all false
set_option maxRecDepth 100000
namespace ZH
open PySem PySem.Spec PyProof.Rows L2 ZZ
abbrev Fr : Type := PySem.W.Frag
theorem ba {a b : Bool} (h : (a && b) = true) : a = true ∧ b = true := Bool.and_eq_true_iff.mp h
abbrev FnO : Type := Option (Str × Str × Arguments × FuncBody × Scope × Addr × List (Str × Addr) × Addr)
def fnO (K : Fr) (a : Addr) : FnO := match K.lookup a with
  | some ⟨_, _, .func fd, _⟩ => some (fd.name, fd.qualname, fd.params, fd.body, fd.scope, fd.globals, fd.closure, fd.builtins)
  | _ => none
structure DefZ where
  a : Addr
  name : Str
  qual : Str
  st : Stmt
  cda : Addr
  clo : List (Str × Addr) := []
  dfl : Option Addr := none
  kwd : Option Addr := none
def DefZ.val (d : DefZ) : FnO := some (d.name, d.qual, defArgs d.st, .stmts (defBody d.st), defScope d.st, mainGlobals, d.clo, builtinsNs)
def vO : Option Addr → Value
  | none => .none
  | some a => .ref a
def DefZ.ok (K : Fr) (d : DefZ) : Bool := PySem.W.keepIn K (.ref d.a) && (match K.lookup d.a with
  | some ⟨_, _, .func fd, _⟩ => PySem.W.codeIn K (.ref d.cda) d.qual && (decide (fd.code = .ref d.cda) && (decide (fd.defaults = vO d.dfl) && decide (fd.kwdefaults = vO d.kwd)))
  | _ => false)
/-- what a def's place holds -/
def FnAt (K : Fr) (d : DefZ) : Prop := ∃ oc od doc pm an ct osl, K.lookup d.a = some ⟨oc, od, .func { name := d.name, qualname := d.qual, params := defArgs d.st, body := .stmts (defBody d.st), scope := defScope d.st, globals := mainGlobals, closure := d.clo, defaults := vO d.dfl, kwdefaults := vO d.kwd, doc, pyModule := pm, annotations := an, code := .ref d.cda, closureTuple := ct, builtins := builtinsNs }, osl⟩ ∧ PySem.W.codeIn K (.ref d.cda) d.qual = true ∧ PySem.W.keepIn K (.ref d.a) = true
theorem fn_at {K : Fr} {d : DefZ} (e : fnO K d.a = d.val) (c : d.ok K = true) : FnAt K d := by
  obtain ⟨kp, c2⟩ := ba c
  unfold fnO at e
  cases q : K.lookup d.a with
  | none =>
    rw [q] at c2
    cases c2
  | some o =>
    obtain ⟨oc, od, dt, osl⟩ := o
    rw [q] at c2 e
    cases dt with
    | func fd =>
      obtain ⟨n1, n2, n3, n4, n5, n6, n7, n8, n9, n10, n11, n12, n13, n14, n15⟩ := fd
      have e2 : (some (n1, n2, n3, n4, n5, n6, n7, n15) : FnO) = some (d.name, d.qual, defArgs d.st, .stmts (defBody d.st), defScope d.st, mainGlobals, d.clo, builtinsNs) := e
      simp only [Option.some.injEq, Prod.mk.injEq] at e2
      obtain ⟨h1, h2, h3, h4, h5, h6, h7, h8⟩ := e2
      subst h1 h2 h3 h4 h5 h6 h7 h8
      obtain ⟨c3, c4⟩ := ba (show (PySem.W.codeIn K (.ref d.cda) d.qual && (decide (n13 = .ref d.cda) && (decide (n8 = vO d.dfl) && decide (n9 = vO d.kwd)))) = true from c2)
      obtain ⟨c5, c6⟩ := ba c4
      obtain ⟨c7, c8⟩ := ba c6
      have e5 := of_decide_eq_true c5
      have e7 := of_decide_eq_true c7
      have e8 := of_decide_eq_true c8
      subst e5 e7 e8
      exact ⟨oc, od, n10, n11, n12, n14, osl, q, c3, kp⟩
    | _ => cases c2
def valD : Value → Option D
  | .str s _ => some (.str s)
  | .int i _ => some (.int i)
  | .none => some .non
  | _ => none
abbrev EnO : Type := Option (Str × Int × Option D)
def enO (e : DictEntry) : EnO := match e.key with
  | .str x _ => some (x, e.hash, valD e.val)
  | _ => none
def enV (P : Params) (q : Str × D) : EnO := some (q.1, PyData.keyHash P q.1, some q.2)
def tbO (K : Fr) (a : Addr) : Option (List EnO) := match K.lookup a with
  | some ⟨.type c, none, .dict es _, sl⟩ => (match decide (c = "dict") && (sl.isEmpty && !(a == sysModules)) with
    | true => some (es.toList.map enO)
    | false => none)
  | _ => none
abbrev Tab : Type := Addr × List (Str × D)
abbrev AlZ : Type := Bool × List FnO × List (Option (List EnO))
abbrev Bs : Type := List (List (Fr → Bool))
def obsZ (bs : Bs) (fn : List DefZ) (tb : List Tab) (K : Fr) : AlZ := ((bs.all fun l => l.all fun f => f K) && fn.all fun d => d.ok K, fn.map (fun d => fnO K d.a), tb.map fun t => tbO K t.1)
def valZ (fn : List DefZ) (tb : List Tab) (w : World) : AlZ := (true, fn.map DefZ.val, tb.map fun t => some (t.2.map (enV w.params)))
def SaysZ (bs : Bs) (fn : List DefZ) (tb : List Tab) (w : World) (K : Fr) : Prop := obsZ bs fn tb K = valZ fn tb w
def obsZG (as : List Addr) (bs : Bs) (fn : List DefZ) (tb : List Tab) (g : Addr → Option Obj) : AlZ := obsZ bs fn tb (He.frG g as)
def hookZ (as : List Addr) (bs : Bs) (fn : List DefZ) (tb : List Tab) : PySem.W.Hook where
  α := AlZ
  obs := fun s => obsZG as bs fn tb s.heap.get?
  val := fun w => valZ fn tb w
  says := fun w h => ∃ K : Fr, K.In h ∧ SaysZ bs fn tb w K
  of := fun _ _ e => ⟨_, He.frG_in, e⟩
  keeps := fun _ _ _ ⟨K, hK, c⟩ k => ⟨K, PySem.W.Frag.In.keeps hK k, c⟩
theorem obsZG_eq {as : List Addr} {bs : Bs} {fn : List DefZ} {tb : List Tab} {g : Addr → Option Obj} {s : Shared} (h : ∀ a, g a = s.heap.get? a) : obsZG as bs fn tb g = (hookZ as bs fn tb).obs s := by
  have e : g = s.heap.get? := funext h
  rw [e] <;> rfl
section
variable {bs : Bs} {fn : List DefZ} {tb : List Tab} {w : World} {K : Fr}
theorem SaysZ.fact (c : SaysZ bs fn tb w K) {i j : Nat} {l : List (Fr → Bool)} {f : Fr → Bool} (h1 : bs[i]? = some l) (h2 : l[j]? = some f) : f K = true := by
  have c1 := (ba (show ((bs.all fun l => l.all fun f => f K) && fn.all fun d => d.ok K) = true from congrArg (fun z : AlZ => z.1) c)).1
  exact List.all_eq_true.mp (List.all_eq_true.mp c1 l (List.mem_of_getElem? h1)) f (List.mem_of_getElem? h2)
theorem SaysZ.dec (c : SaysZ bs fn tb w K) {i j : Nat} {l : List (Fr → Bool)} {p : Prop} [Decidable p] {f : Fr → Bool} (h1 : bs[i]? = some l) (h2 : l[j]? = some f) (e : f K = decide p) : p := of_decide_eq_true (e.symm.trans (c.fact h1 h2))
theorem SaysZ.fns (c : SaysZ bs fn tb w K) {i : Nat} {d : DefZ} (h : fn[i]? = some d) : FnAt K d := by
  have c2 := (ba (show ((bs.all fun l => l.all fun f => f K) && fn.all fun d => d.ok K) = true from congrArg (fun z : AlZ => z.1) c)).2
  have e : fn.map (fun d => fnO K d.a) = fn.map DefZ.val := congrArg (fun z : AlZ => z.2.1) c
  have e2 : (fn.map fun d => fnO K d.a)[i]? = (fn.map DefZ.val)[i]? := by rw [e]
  rw [List.getElem?_map, List.getElem?_map, h] at e2
  exact fn_at (Option.some.inj e2) (List.all_eq_true.mp c2 d (List.mem_of_getElem? h))
end
def excB (K : Fr) (C : Addr) : Bool := match K.lookup C with
  | some ⟨.type t, _, .cls cd, sl⟩ => decide (t = "type") && (cd.hasDict && (!cd.hasDel && ((match cd.mro with
    | .ref c :: bm => decide (c = C) && PySem.HandSPX.refsVE bm
    | _ => false) && (match sl.toList with
    | [_, _, _, _, some (.builtin id), _] => decide (id = "ValueError.__new__")
    | _ => false))))
  | _ => false
theorem map_trip {α β δ γ : Type} {e : Option γ} {f : γ → α} {g : γ → β} {k : γ → δ} {a : α} {b : β} {c : δ} (h1 : e.map (fun s => (f s, g s)) = some (a, b)) (h2 : e.map k = some c) : e.map (fun s => (f s, g s, k s)) = some (a, b, c) := by
  cases e with
  | none => cases h1
  | some s => cases h1; cases h2; rfl
end ZH
set_option Elab.async false
set_option linter.all false
set_option maxRecDepth 100000
set_option maxHeartbeats 4000000
namespace ZZ
open PySem PySem.Spec L2
def top (i : Nat) : Stmt := PySem.Challenge.pw_siltmeet_k10_record_floods.main.body.getD i (.Pass ⟨0, 0, 0, 0⟩)
abbrev s_Record___iter__ : Stmt := inClass (top 12) 7
abbrev s_BadRecord___init__ : Stmt := inClass (top 4) 0
def d_SWAPPED : List (Str × D) := [("<", .str ">"), ("=", .str "="), (">", .str "<")]
abbrev s_runs : Stmt := top 8
abbrev n_runs : List Str := ["steps", "pairs", "sign"]
abbrev s_Record___init__ : Stmt := inClass (top 12) 0
abbrev n_Record___init__ : List Str := ["self", "steps", "rows", "left", "right", "index", "sign"]
abbrev s_Record___len__ : Stmt := inClass (top 12) 6
abbrev n_Record___len__ : List Str := ["self"]
abbrev s_Record_floods : Stmt := inClass (top 12) 11
abbrev n_Record_floods : List Str := ["self", "left", "right", "sign", "many"]
abbrev s_Record___neg__ : Stmt := inClass (top 12) 19
abbrev n_Record___neg__ : List Str := ["self", "sign"]
abbrev s__law_mix : Stmt := top 14
abbrev n__law_mix : List Str := ["_law_cell", "_law_turn", "_law_number"]
abbrev s__law_pool : Stmt := top 15
abbrev n__law_pool : List Str := ["_law_script", "_law_many", "_law_pool_here", "_law_seed", "_law_k", "_law_rest", "_law_great", "_law_turn"]
abbrev s__law_draw : Stmt := top 16
abbrev n__law_draw : List Str := ["_law_pool_here", "_law_bound"]
abbrev s__law_path : Stmt := top 17
abbrev n__law_path : List Str := ["_law_pool_here", "_law_lefts", "_law_rights", "_law_steps", "_law_x", "_law_y", "_law_turn", "_law_sign"]
abbrev s__law_whole : Stmt := top 18
abbrev n__law_whole : List Str := ["_law_number"]
abbrev s__law_runs : Stmt := top 19
abbrev n__law_runs : List Str := ["_law_pool_here", "_law_lefts", "_law_rights", "_law_steps", "_law_x", "_law_y", "_law_turn", "_law_sign", "_law_many"]
abbrev s__law_due : Stmt := top 20
abbrev n__law_due : List Str := ["_law_steps", "_law_rows_here", "_law_x", "_law_y", "_law_k", "_law_sign", "_law_begins", "_law_row"]
abbrev s__law_right : Stmt := top 21
abbrev n__law_right : List Str := ["_law_record", "_law_due_here", "_law_told", "_law_flood"]
abbrev s__law_rows : Stmt := top 22
abbrev n__law_rows : List Str := ["_law_steps", "_law_rows_here", "_law_x", "_law_y", "_law_sign"]
abbrev s__law_other : Stmt := top 23
abbrev n__law_other : List Str := ["_law_flood"]
abbrev s_law : Stmt := top 24
abbrev n_law : List Str := ["_law_script", "_law_pool_here", "_law_top", "_law_lefts", "_law_rights", "_law_steps", "_law_record", "_law_due_here", "_law_flood", "_law_row"]
end ZZ
set_option Elab.async false
set_option linter.all false
set_option maxRecDepth 100000
set_option maxHeartbeats 4000000
namespace ZZ
open PySem PySem.Spec L2
open ZH PyProof.Rows
abbrev dz_0 : DefZ := { a := 92, name := "runs", qual := "runs", st := s_runs, cda := 91, clo := [], dfl := none, kwd := none }
abbrev dz_1 : DefZ := { a := 127, name := "__init__", qual := "Record.__init__", st := s_Record___init__, cda := 126, clo := [], dfl := none, kwd := none }
abbrev dz_2 : DefZ := { a := 178, name := "__len__", qual := "Record.__len__", st := s_Record___len__, cda := 177, clo := [], dfl := none, kwd := none }
abbrev dz_3 : DefZ := { a := 213, name := "floods", qual := "Record.floods", st := s_Record_floods, cda := 212, clo := [], dfl := none, kwd := none }
abbrev dz_4 : DefZ := { a := 261, name := "__neg__", qual := "Record.__neg__", st := s_Record___neg__, cda := 260, clo := [], dfl := none, kwd := none }
abbrev dz_5 : DefZ := { a := 275, name := "_law_mix", qual := "_law_mix", st := s__law_mix, cda := 274, clo := [], dfl := none, kwd := none }
abbrev dz_6 : DefZ := { a := 282, name := "_law_pool", qual := "_law_pool", st := s__law_pool, cda := 281, clo := [], dfl := none, kwd := none }
abbrev dz_7 : DefZ := { a := 289, name := "_law_draw", qual := "_law_draw", st := s__law_draw, cda := 288, clo := [], dfl := none, kwd := none }
abbrev dz_8 : DefZ := { a := 296, name := "_law_path", qual := "_law_path", st := s__law_path, cda := 295, clo := [], dfl := none, kwd := none }
abbrev dz_9 : DefZ := { a := 303, name := "_law_whole", qual := "_law_whole", st := s__law_whole, cda := 302, clo := [], dfl := none, kwd := none }
abbrev dz_10 : DefZ := { a := 310, name := "_law_runs", qual := "_law_runs", st := s__law_runs, cda := 309, clo := [], dfl := none, kwd := none }
abbrev dz_11 : DefZ := { a := 315, name := "_law_due", qual := "_law_due", st := s__law_due, cda := 314, clo := [], dfl := none, kwd := none }
abbrev dz_12 : DefZ := { a := 320, name := "_law_right", qual := "_law_right", st := s__law_right, cda := 319, clo := [], dfl := none, kwd := none }
abbrev dz_13 : DefZ := { a := 327, name := "_law_rows", qual := "_law_rows", st := s__law_rows, cda := 326, clo := [], dfl := none, kwd := none }
abbrev dz_14 : DefZ := { a := 334, name := "_law_other", qual := "_law_other", st := s__law_other, cda := 333, clo := [], dfl := none, kwd := none }
abbrev dz_15 : DefZ := { a := 339, name := "law", qual := "law", st := s_law, cda := 338, clo := [], dfl := none, kwd := none }
abbrev dz_16 : DefZ := { a := 185, name := "__iter__", qual := "Record.__iter__", st := s_Record___iter__, cda := 184, clo := [], dfl := none, kwd := none }
abbrev dz_17 : DefZ := { a := 67, name := "__init__", qual := "BadRecord.__init__", st := s_BadRecord___init__, cda := 66, clo := [], dfl := none, kwd := none }
abbrev dz_18 : DefZ := { a := 339, name := "law", qual := "law", st := s_law, cda := 338, clo := [], dfl := none, kwd := none }
abbrev fnl : List DefZ := [dz_0, dz_1, dz_2, dz_3, dz_4, dz_5, dz_6, dz_7, dz_8, dz_9, dz_10, dz_11, dz_12, dz_13, dz_14, dz_15, dz_16, dz_17, dz_18]
def fb_0 : List (Fr → Bool) := [fun K => decide (PySem.W.nsIn K mainGlobals "abs" = some none),
  fun K => decide (PySem.W.nsIn K mainGlobals "bool" = some none),
  fun K => decide (PySem.W.nsIn K mainGlobals "enumerate" = some none),
  fun K => decide (PySem.W.nsIn K mainGlobals "int" = some none),
  fun K => decide (PySem.W.nsIn K mainGlobals "isinstance" = some none),
  fun K => decide (PySem.W.nsIn K mainGlobals "len" = some none),
  fun K => decide (PySem.W.nsIn K mainGlobals "min" = some none),
  fun K => decide (PySem.W.nsIn K mainGlobals "range" = some none),
  fun K => decide (PySem.W.nsIn K mainGlobals "str" = some none),
  fun K => decide (PySem.W.nsIn K mainGlobals "tuple" = some none),
  fun K => decide (PySem.W.nsIn K mainGlobals "runs" = some (some (.ref 92))),
  fun K => decide (PySem.W.findIn K (.ref 264) "__len__" = some (some (.ref 178))),
  fun K => PySem.W.isFn K (.ref 178),
  fun K => decide (PySem.W.findIn K (.ref 264) "floods" = some (some (.ref 213))),
  fun K => PySem.W.isFn K (.ref 213),
  fun K => PySem.W.keepIn K (.ref 213),
  fun K => decide (PySem.W.findIn K (.ref 264) "__neg__" = some (some (.ref 261))),
  fun K => PySem.W.isFn K (.ref 261),
  fun K => decide (PySem.W.nsIn K mainGlobals "_law_mix" = some (some (.ref 275))),
  fun K => decide (PySem.W.nsIn K mainGlobals "_law_pool" = some (some (.ref 282))),
  fun K => decide (PySem.W.nsIn K mainGlobals "_law_draw" = some (some (.ref 289))),
  fun K => decide (PySem.W.nsIn K mainGlobals "_law_path" = some (some (.ref 296))),
  fun K => decide (PySem.W.nsIn K mainGlobals "_law_whole" = some (some (.ref 303))),
  fun K => decide (PySem.W.nsIn K mainGlobals "_law_runs" = some (some (.ref 310))),
  fun K => decide (PySem.W.nsIn K mainGlobals "_law_due" = some (some (.ref 315)))]
def fb_1 : List (Fr → Bool) := [fun K => decide (PySem.W.nsIn K mainGlobals "_law_right" = some (some (.ref 320))),
  fun K => decide (PySem.W.nsIn K mainGlobals "_law_rows" = some (some (.ref 327))),
  fun K => decide (PySem.W.nsIn K mainGlobals "_law_other" = some (some (.ref 334))),
  fun K => decide (PySem.W.nsIn K mainGlobals "law" = some (some (.ref 339))),
  fun K => decide (PySem.W.nsIn K mainGlobals "Record" = some (some (.ref 264))),
  fun K => PySem.W.plainGet K 264 Str.empty,
  fun K => PySem.W.hasDictIn K 264,
  fun K => PySem.W.plainOver K 264,
  fun K => decide (PySem.W.findIn K (.ref 264) "__setattr__" = some (some (.builtin "object.__setattr__"))),
  fun K => decide (PySem.W.findIn K (.ref 264) "steps" = some none),
  fun K => decide (PySem.W.findIn K (.ref 264) "rows" = some none),
  fun K => PySem.W.makesIn K 264,
  fun K => decide (PySem.W.findIn K (.ref 264) "__init__" = some (some (.ref 127))),
  fun K => PySem.W.isFn K (.ref 127),
  fun K => PySem.W.keepIn K (.ref 264),
  fun K => decide (PySem.W.nsIn K mainGlobals "iter" = some none),
  fun K => decide (PySem.W.findIn K (.ref 264) "__iter__" = some (some (.ref 185))),
  fun K => PySem.W.isFn K (.ref 185),
  fun K => decide (PySem.W.nsIn K mainGlobals "BadRecord" = some (some (.ref 70))),
  fun K => PySem.W.keepIn K (.ref 70),
  fun K => decide (PySem.W.subIn K (.ref 70) (.type "BaseException") = some true),
  fun K => decide (PySem.W.typeIn K (.ref 70) = some (.type "type")),
  fun K => decide (PySem.W.findIn K (.ref 70) "__setattr__" = some (some (.builtin "object.__setattr__"))),
  fun K => excB K 70,
  fun K => decide (PySem.W.findIn K (.ref 70) "__init__" = some (some (.ref 67)))]
def fb_2 : List (Fr → Bool) := [fun K => decide (PySem.W.typeIn K (.ref 67) = some (.type "function")),
  fun K => decide (PySem.W.findIn K (.ref 70) "index" = some none),
  fun K => decide (PySem.W.kitOne K (.ref 264) (.type "bool") = some false),
  fun K => decide (PySem.W.findIn K (.ref 264) "__class__" = some (some (.builtin "object.__class__"))),
  fun K => decide (PySem.W.specialIn K (.builtin "object.__class__") "__get__" = some (some (.builtin "getset_descriptor.__get__"))),
  fun K => decide (PySem.W.takesIn K (.builtin "object.__class__") = some true),
  fun K => decide (PySem.W.mroIn K 264 (.type "object") = some true),
  fun K => decide (PySem.W.kitOne K (.ref 264) (.type "int") = some false),
  fun K => decide (PySem.W.kitOne K (.ref 264) (.type "str") = some false),
  fun K => decide (PySem.W.kitOne K (.ref 264) (.type "tuple") = some false),
  fun K => decide (PySem.W.nsIn K mainGlobals "SWAPPED" = some (some (.ref 85)))]
abbrev fbp_0 : Bs := [fb_0, fb_1, fb_2]
abbrev fbs : Bs := fbp_0
abbrev tbs : List ZH.Tab := [(85, d_SWAPPED)]
def as_0 : List Addr := [3, 2, 31, 51, 70, 82, 264, 0, 1, 6, 24, 30, 37, 50, 56, 69, 75, 81, 85, 116, 135, 137, 145, 147, 263, 9, 13, 20, 21, 23, 27, 32, 33, 34, 36, 40, 47, 48, 52, 53]
def as_1 : List Addr := [55, 59, 66, 67, 71, 72, 74, 78, 83, 84, 91, 92, 98, 99, 105, 106, 112, 113, 115, 119, 126, 127, 133, 134, 136, 143, 144, 146, 153, 154, 155, 161, 162, 163, 169, 170, 171, 177, 178, 184]
def as_2 : List Addr := [185, 191, 192, 198, 199, 205, 206, 212, 213, 219, 220, 224, 225, 231, 232, 236, 237, 241, 242, 248, 249, 255, 256, 260, 261, 265, 266, 267, 268, 274, 275, 281, 282, 288, 289, 295, 296, 302, 303, 309]
def as_3 : List Addr := [310, 314, 315, 319, 320, 326, 327, 333, 334, 338, 339, 7, 11, 15, 17, 18, 22, 25, 29, 35, 38, 42, 44, 45, 49, 54, 57, 61, 63, 64, 68, 73, 76, 80, 86, 88, 89, 93, 95, 96]
def as_4 : List Addr := [100, 102, 103, 107, 109, 110, 114, 117, 121, 123, 124, 128, 130, 131, 138, 140, 141, 148, 150, 151, 156, 158, 159, 164, 166, 167, 172, 174, 175, 179, 181, 182, 186, 188, 189, 193, 195, 196, 200, 202]
def as_5 : List Addr := [203, 207, 209, 210, 214, 216, 217, 221, 226, 228, 229, 233, 238, 243, 245, 246, 250, 252, 253, 257, 262, 269, 271, 272, 276, 278, 279, 283, 285, 286, 290, 292, 293, 297, 299, 300, 304, 306, 307, 311]
def as_6 : List Addr := [316, 321, 323, 324, 328, 330, 331, 335]
def as_all : List Addr := as_0 ++ (as_1 ++ (as_2 ++ (as_3 ++ (as_4 ++ (as_5 ++ (as_6))))))
def nm_0 : List PySem.Str := ["_wall", "SiltError", "NoLayer", "BadRecord", "Unlike", "SWAPPED", "runs", "heights", "from_heights", "paired_heights", "Record", "_law_mix", "_law_pool", "_law_draw", "_law_path", "_law_whole", "_law_runs", "_law_due", "_law_right", "_law_rows", "_law_other"]
def nm_all : List PySem.Str := nm_0
abbrev RR : PySem.W.OpenRow := PySem.W.OpenLaw.row PySem.Challenge.rw_siltmeet_k10_record_floods
abbrev qq : Program := PySem.W.view RR.prog [24]
abbrev hkk : PySem.W.Hook := hookZ as_all fbs fnl tbs
noncomputable def obk (s : PySem.W.SharedT) : ZH.AlZ := obsZG as_all fbs fnl tbs (HandSHeadRun.getT s)
theorem obk_eq (s : PySem.W.SharedT) : obk s = hkk.obs s.abs := obsZG_eq (HandSHeadRun.getT_eq s)
/-- the run at a world -/
noncomputable abbrev rn (w : World) (os : OsState) : Option PySem.W.SharedT := HandSHeadRun.endF (HandSHeadRun.stepQ (HandSHeadRun.denQ HandSHeadRun.tabQ) RR.prog w) 30000 RR.prog w os
end ZZ
set_option Elab.async false
set_option linter.all false
set_option maxRecDepth 100000
set_option maxHeartbeats 4000000
namespace ZZ
open PySem PySem.Spec L2
open ZH
theorem ra_f (w : World) (os : OsState) : (rn (w.withFollow "special-get-raises" false) os).map (fun s => (HandSHeadRun.looksF RR.prog (PySem.W.boot_heap (w.withFollow "special-get-raises" false).params) s.abs, HandSHeadRun.seenQ qq nm_all (PySem.importedModules RR.prog.main.body) (fun s => PySem.W.xlAt qq [] s && PySem.W.recOk RR.toRowW.records s) s.abs)) = some (true, PySem.W.openGood qq nm_all) := by
  kernel_rfl
end ZZ
set_option Elab.async false
set_option linter.all false
set_option maxRecDepth 100000
set_option maxHeartbeats 4000000
namespace ZZ
open PySem PySem.Spec L2
open ZH
theorem rb_f_0 (w : World) (os : OsState) : (rn (w.withFollow "special-get-raises" false) os).map (fun s => obsZ fbp_0 fnl tbs (He.frG (HandSHeadRun.getT s) as_all)) = some (true, (valZ fnl tbs (w.withFollow "special-get-raises" false)).2) := by
  kernel_rfl
end ZZ
set_option Elab.async false
set_option linter.all false
set_option maxRecDepth 100000
set_option maxHeartbeats 4000000
namespace ZZ
open PySem PySem.Spec L2
open ZH
theorem ra_t (w : World) (os : OsState) : (rn (w.withFollow "special-get-raises" true) os).map (fun s => (HandSHeadRun.looksF RR.prog (PySem.W.boot_heap (w.withFollow "special-get-raises" true).params) s.abs, HandSHeadRun.seenQ qq nm_all (PySem.importedModules RR.prog.main.body) (fun s => PySem.W.xlAt qq [] s && PySem.W.recOk RR.toRowW.records s) s.abs)) = some (true, PySem.W.openGood qq nm_all) := by
  kernel_rfl
end ZZ
set_option Elab.async false
set_option linter.all false
set_option maxRecDepth 100000
set_option maxHeartbeats 4000000
namespace ZZ
open PySem PySem.Spec L2
open ZH
theorem rb_t_0 (w : World) (os : OsState) : (rn (w.withFollow "special-get-raises" true) os).map (fun s => obsZ fbp_0 fnl tbs (He.frG (HandSHeadRun.getT s) as_all)) = some (true, (valZ fnl tbs (w.withFollow "special-get-raises" true)).2) := by
  kernel_rfl
end ZZ
set_option Elab.async false
set_option linter.all false
set_option maxRecDepth 100000
namespace ZZ
open PySem PySem.Spec L2
/-- what a call lets out is wished for -/
def TW (X : Cx) (W : WX) : Prop := ∀ σ, PassesAt (L2N.CX X.prog X.w) X σ (WE W σ)
theorem tw_of {X : Cx} {W : WX} (t : L2N.Takes X W) : TW X W := fun σ => L2N.passAt t σ
abbrev WF : WX := fun _ _ _ _ => False
theorem takesN0 {X : Cx} : L2N.Takes X WF := fun _ _ x => by
  obtain ⟨_, _, _, _, _, _, _, _, _, _, _, _, _, _, _, _, z⟩ := x
  exact z.elim
theorem tw_none {X : Cx} : TW X WF := tw_of takesN0
def eC (d : D) : DE := fun _ ce => .ok (.im d) ce
def eV (i : Nat) : DE := fun sl ce => match sl[i]? with
  | some (some v) => .ok v ce
  | _ => .stuck
def kStuck : DE := fun _ _ => .stuck
def asL (ce : List Cell) : Val → Option (List D)
  | .im (.lst ds) => some ds
  | .cell k => match ce[k]? with
    | some (.lst ds) => some ds
    | _ => none
  | _ => none
/-- a list or tuple that is only read -/
def asSq (ce : List Cell) : Val → Option (List D)
  | .im (.lst ds) => some ds
  | .im (.wl ds) => some ds
  | .im (.tup ds) => some ds
  | .cell k => match ce[k]? with
    | some (.lst ds) => some ds
    | _ => none
  | _ => none
abbrev LINE : Nat := 16777216
def kAdd (v u : Val) : DE := fun sl ce => match v, u with
  | .im (.int i), .im (.int j) => .ok (.im (.int (i + j))) ce
  | .im (.str a), .im (.str b) => if a.length + b.length ≤ LINE then .ok (.im (.str (a ++ b))) ce else .stuck
  | v, u => match asL ce v, asL ce u with
    | some xs, some ys => if xs.length + ys.length ≤ LINE then .ok (.im (.lst (xs ++ ys))) ce else .stuck
    | _, _ => .stuck
def kSub (v u : Val) : DE := fun _ ce => match v, u with
  | .im (.int i), .im (.int j) => .ok (.im (.int (i - j))) ce
  | _, _ => .stuck
/-- bits of a product -/
def mulOK (i j : Int) : Bool := decide (i.natAbs < 2 ^ 400000) && decide (j.natAbs < 2 ^ 400000) || (decide (i.natAbs < 2 ^ 64) || decide (j.natAbs < 2 ^ 64))
def kMul (v u : Val) : DE := fun _ ce => match v, u with
  | .im (.int i), .im (.int j) => if mulOK i j then .ok (.im (.int (i * j))) ce else .stuck
  | _, _ => .stuck
def kDiv (v u : Val) : DE := fun _ ce => match v, u with
  | .im (.int i), .im (.int j) => if 0 < j ∧ j < 1073741824 then .ok (.im (.int (i / j))) ce else .stuck
  | _, _ => .stuck
def kMod (v u : Val) : DE := fun _ ce => match v, u with
  | .im (.int i), .im (.int j) => if 0 < j then .ok (.im (.int (i % j))) ce else .stuck
  | _, _ => .stuck
def kPow (v u : Val) : DE := fun _ ce => match v, u with
  | .im (.int i), .im (.int j) => if 0 ≤ j ∧ j ≤ 1000000 ∧ i.natAbs < 2 ^ 64 then .ok (.im (.int (i ^ j.toNat))) ce else .stuck
  | _, _ => .stuck
def kCmp (g : Int → Int → Bool) (v u : Val) : DE := fun _ ce => match v, u with
  | .im (.int i), .im (.int j) => .ok (.im (.bl (g i j))) ce
  | _, _ => .stuck
abbrev kLt := kCmp fun i j => decide (i < j)
abbrev kGt := kCmp fun i j => decide (j < i)
abbrev kGe := kCmp fun i j => decide (j ≤ i)
mutual
def toPy : D → Option PyData
  | .non => some .none
  | .bl b => some (.bool b)
  | .int i => some (.int i)
  | .str s => some (.str s)
  | .tup ds => (toPys ds).map .tuple
  | .lst ds => (toPys ds).map .list
  | .wl ds => (toPys ds).map .list
  | .ins _ _ => none
  | .dct _ _ => none
def toPys : List D → Option (List PyData)
  | [] => some []
  | d :: ds => match toPy d, toPys ds with
    | some p, some ps => some (p :: ps)
    | _, _ => none
end
def asIm (ce : List Cell) : Val → Option D
  | .im d => some d
  | .cell k => match ce[k]? with
    | some (.lst ds) => some (.lst ds)
    | _ => none
  | _ => none
def pyEq (d e : D) : Option Bool := match toPy d, toPy e with
  | some p, some q => if SeqAt.shaped p = true ∧ SeqAt.shaped q = true then some (PyData.eqv p q) else none
  | _, _ => none
def kEqG (neg : Bool) (v u : Val) : DE := fun _ ce => match asIm ce v, asIm ce u with
  | some d, some e => match pyEq d e with
    | some b => .ok (.im (.bl (if neg then !b else b))) ce
    | none => .stuck
  | _, _ => .stuck
abbrev kEq := kEqG false
abbrev kNe := kEqG true
def kIsB (neg : Bool) (v u : Val) : DE := fun _ ce => match v, u with
  | .im (.bl a), .im (.bl b) => .ok (.im (.bl (if neg then !decide (a = b) else decide (a = b)))) ce
  | _, _ => .stuck
def kIx (v u : Val) : DE := fun _ ce => match u with
  | .im (.int i) => match v with
    | .im (.str z) => if z.length ≤ LINE then (match atI z.cps.toList i with
      | some c => .ok (.im (.str ⟨#[c]⟩)) ce
      | none => .stuck) else .stuck
    | v => match asSq ce v with
      | some ds => match atI ds i with
        | some d => .ok (.im d) ce
        | none => .stuck
      | none => .stuck
  | _ => .stuck
def eBin (k : Val → Val → DE) (f g : DE) : DE := eBind f fun v => eBind g (k v)
def eUn (k : Val → DE) (f : DE) : DE := eBind f k
def kBool (k : Bool → DE) (v : Val) : DE := match v with
  | .im (.bl b) => k b
  | _ => kStuck
def eAnd (f g : DE) : DE := eBind f (kBool fun b => if b then g else eC (.bl false))
def eOr (f g : DE) : DE := eBind f (kBool fun b => if b then eC (.bl true) else g)
def eNot (f : DE) : DE := eBind f (kBool fun b => eC (.bl (!b)))
def eIf (c f g : DE) : DE := eBind c (kBool fun b => if b then f else g)
/-- a value as a test -/
def truV (ce : List Cell) : Val → Option Bool
  | .im .non => some false
  | .im (.bl b) => some b
  | .im (.int i) => some (i != 0)
  | .im (.str y) => if y.length ≤ LINE then some ((y.length : Int) != 0) else none
  | v => (asSq ce v).map fun ds => !ds.isEmpty
def kTru (v : Val) : DE := fun _ ce => match truV ce v with
  | some b => .ok (.im (.bl b)) ce
  | none => .stuck
def eTru (f : DE) : DE := eBind f kTru
section
variable {Z : Zy} {A A' : List Addr} {F F' H : Hp} {ce : List Cell} {sl : Sl} {σ : L2.St} {W : WX} {Q Q' : VK}
theorem asL_rd {v : Val} {x : V} {ds : List D} (so : SO Z.toZx A F ce H) (r : VRep Z A F v x) (e : asL ce v = some ds) : ∃ l vs, x = .ref l ∧ H l = some (.lst vs) ∧ Reps Z.toZx F ds vs := by
  unfold asL at e
  split at e
  · cases e
    unfold VRep Rep at r
    obtain ⟨a, vs, rfl, h1, h2⟩ := r
    exact ⟨a, vs, rfl, so.sub _ _ h1, h2⟩
  · rename_i k
    split at e
    · rename_i ds' hk
      cases e
      obtain ⟨a, h1, rfl⟩ := r
      obtain ⟨_, vs, h2, h3⟩ := so.ok k a _ h1 hk
      exact ⟨a, vs, rfl, h2, h3⟩
    · cases e
  · cases e
theorem asSq_rd {v : Val} {x : V} {ds : List D} (so : SO Z.toZx A F ce H) (r : VRep Z A F v x) (e : asSq ce v = some ds) : ∃ l vs, x = .ref l ∧ (SqL Z.K H l vs ∨ SqT Z.K H l vs) ∧ Reps Z.toZx F ds vs := by
  unfold asSq at e
  split at e
  · cases e
    unfold VRep Rep at r
    obtain ⟨a, vs, rfl, h1, h2⟩ := r
    exact ⟨a, vs, rfl, .inl (SqL.of (so.sub _ _ h1)), h2⟩
  · cases e
    unfold VRep Rep at r
    obtain ⟨a, vs, rfl, h1, h2⟩ := r
    exact ⟨a, vs, rfl, .inl (so.sub.seq h1), h2⟩
  · cases e
    unfold VRep Rep at r
    obtain ⟨a, vs, rfl, h1, h2⟩ := r
    exact ⟨a, vs, rfl, .inr (same_seqT so.sub h1), h2⟩
  · rename_i k
    split at e
    · rename_i ds' hk
      cases e
      obtain ⟨a, h1, rfl⟩ := r
      obtain ⟨_, vs, h2, h3⟩ := so.ok k a _ h1 hk
      exact ⟨a, vs, rfl, .inl (SqL.of h2), h3⟩
    · cases e
  · cases e
mutual
theorem dp_of (e : Same F H) : ∀ {d : D} {v : V} {p : PyData}, Rep Z.toZx F d v → toPy d = some p → Dp Z.K H v p
  | .non, v, p, r, t => by
    unfold Rep at r; unfold toPy at t; cases t; subst r; exact .non
  | .bl b, v, p, r, t => by
    unfold Rep at r; unfold toPy at t; cases t; subst r; exact .bl b
  | .int b, v, p, r, t => by
    unfold Rep at r; unfold toPy at t; cases t; subst r; exact .int b
  | .str b, v, p, r, t => by
    unfold Rep at r; unfold toPy at t; cases t; subst r; exact .str b
  | .tup ds, v, p, r, t => by
    unfold Rep at r; unfold toPy at t
    obtain ⟨a, vs, rfl, h1, h2⟩ := r
    cases q : toPys ds with
    | none => rw [q] at t; cases t
    | some ps => rw [q] at t; cases t; exact .tup (same_seqT e h1) (dps_of e h2 q)
  | .lst ds, v, p, r, t => by
    unfold Rep at r; unfold toPy at t
    obtain ⟨a, vs, rfl, h1, h2⟩ := r
    cases q : toPys ds with
    | none => rw [q] at t; cases t
    | some ps => rw [q] at t; cases t; exact .lst (SqL.of (e _ _ h1)) (dps_of e h2 q)
  | .wl ds, v, p, r, t => by
    unfold Rep at r; unfold toPy at t
    obtain ⟨a, vs, rfl, h1, h2⟩ := r
    cases q : toPys ds with
    | none => rw [q] at t; cases t
    | some ps => rw [q] at t; cases t; exact .lst (e.seq h1) (dps_of e h2 q)
  | .ins _ _, v, p, r, t => by
    unfold toPy at t; cases t
  | .dct _ _, v, p, r, t => by
    unfold toPy at t; cases t
theorem dps_of (e : Same F H) : ∀ {ds : List D} {vs : List V} {ps : List PyData}, Reps Z.toZx F ds vs → toPys ds = some ps → DpAll Z.K H vs ps
  | [], vs, ps, r, t => by
    rw [reps_nil_inv r]; unfold toPys at t; cases t; exact .nil
  | d :: ds, vs, ps, r, t => by
    obtain ⟨v, r', rfl, h1, h2⟩ := reps_cons_inv r
    unfold toPys at t
    split at t
    · rename_i p ps' q1 q2
      cases t
      exact .cons (dp_of e h1 q1) (dps_of e h2 q2)
    · cases t
end
theorem asIm_dp {v : Val} {x : V} {d : D} {p : PyData} (so : SO Z.toZx A F ce H) (r : VRep Z A F v x) (e : asIm ce v = some d) (t : toPy d = some p) : Dp Z.K H x p := by
  unfold asIm at e
  split at e
  · cases e
    exact dp_of so.sub r t
  · rename_i k
    split at e
    · rename_i ds' hk
      cases e
      obtain ⟨a, h1, rfl⟩ := r
      obtain ⟨_, vs, h2, h3⟩ := so.ok k a _ h1 hk
      unfold toPy at t
      cases q : toPys ds' with
      | none => rw [q] at t; cases t
      | some ps => rw [q] at t; cases t; exact .lst (SqL.of h2) (dps_of so.sub h3 q)
    · cases e
  · cases e
theorem truV_ok {v : Val} {x : V} {b : Bool} (so : SO Z.toZx A F ce H) (r : VRep Z A F v x) (e : truV ce v = some b) : TruV Z.K x H b := by
  unfold truV at e
  split at e
  · cases e; unfold VRep Rep at r; subst r; rfl
  · cases e; unfold VRep Rep at r; subst r; rfl
  · cases e; unfold VRep Rep at r; subst r; rfl
  · split at e
    · rename_i h
      cases e; unfold VRep Rep at r; subst r
      exact ⟨by rw [sizeLine_eq]; exact h, rfl⟩
    · cases e
  · cases q : asSq ce v with
    | none => rw [q] at e; cases e
    | some ds =>
      rw [q] at e
      cases e
      obtain ⟨l, vs, rfl, h1, h2⟩ := asSq_rd so r q
      have hv : (!ds.isEmpty) = !vs.isEmpty := by
        have := h2.length
        cases ds <;> cases vs <;> simp_all
      rcases h1 with h1 | h1
      · exact .inl ⟨vs, h1, by simpa using hv⟩
      · exact .inr (.inl ⟨vs, h1, by simpa using hv⟩)
theorem fin_flat {d : D} {x : V} (so : SO Z.toZx A F ce H) (h : PostE Z A F W σ Q (.ok (.im d) ce)) (r : Rep Z.toZx F d x) : Q x H :=
  h A F H x (List.prefix_refl _) (Same.refl _) so r
theorem fin_newL {ds : List D} {vs : List V} (so : SO Z.toZx A F ce H) (h : PostE Z A F W σ Q (.ok (.im (.lst ds)) ce)) (r : Reps Z.toZx F ds vs) {p : Addr} (hp : H p = none) : Q (.ref p) (upd H p (.lst vs)) := by
  refine h A (upd F p (.lst vs)) _ _ (List.prefix_refl _) (same_up (so.fnone hp)) (so.new hp) ?_
  unfold VRep Rep
  exact ⟨p, vs, rfl, upd_same, r.mono (same_up (so.fnone hp))⟩
theorem fin_newT {ds : List D} {vs : List V} (so : SO Z.toZx A F ce H) (h : PostE Z A F W σ Q (.ok (.im (.tup ds)) ce)) (r : Reps Z.toZx F ds vs) {p : Addr} (hp : H p = none) : Q (.ref p) (upd H p (.tup vs)) := by
  refine h A (upd F p (.tup vs)) _ _ (List.prefix_refl _) (same_up (so.fnone hp)) (so.new hp) ?_
  unfold VRep Rep
  exact ⟨p, vs, rfl, SqT.of upd_same, r.mono (same_up (so.fnone hp))⟩
theorem fin_newC {ds : List D} {vs : List V} (so : SO Z.toZx A F ce H) (h : PostE Z A F W σ Q (.ok (.cell ce.length) (ce ++ [.lst ds]))) (r : Reps Z.toZx F ds vs) {p : Addr} (hp : H p = none) : Q (.ref p) (upd H p (.lst vs)) := by
  refine h (A ++ [p]) F _ _ (List.prefix_append _ _) (Same.refl _) (so.newCell hp ⟨so.fnone hp, vs, upd_same, r⟩) ?_
  exact ⟨p, by rw [← so.len]; simp, rfl⟩
/-- what a rule on two values asks -/
def Ok2 (Z : Zy) (W : WX) (k : Val → Val → DE) (r : R2) : Prop := ∀ A F sl ce v u x y H σ Q, SO Z.toZx A F ce H → SL Z A F sl σ → VRep Z A F v x → VRep Z A F u y → PostE Z A F W σ Q (k v u sl ce) → r x y H Q
theorem rep_int {i : Int} {x : V} (r : VRep Z A F (.im (.int i)) x) : x = .int i := by unfold VRep Rep at r; exact r
theorem rep_bl {i : Bool} {x : V} (r : VRep Z A F (.im (.bl i)) x) : x = .bl i := by unfold VRep Rep at r; exact r
theorem rep_str {i : Str} {x : V} (r : VRep Z A F (.im (.str i)) x) : x = .str i := by unfold VRep Rep at r; exact r
theorem rep_non {x : V} (r : VRep Z A F (.im .non) x) : x = .non := by unfold VRep Rep at r; exact r
theorem repI {i : Int} : Rep Z.toZx F (.int i) (.int i) := by unfold Rep; rfl
theorem repB {i : Bool} : Rep Z.toZx F (.bl i) (.bl i) := by unfold Rep; rfl
theorem repS {i : Str} : Rep Z.toZx F (.str i) (.str i) := by unfold Rep; rfl
theorem repN : Rep Z.toZx F .non .non := by unfold Rep; rfl
end
section
variable {X : Cx} {Z : Zy} {W : WX} {a b c : Expr} {f g h : DE} {pos : Pos}
def rAddA : R2 := fun x y H Q => (∃ i j, x = .int i ∧ y = .int j ∧ Q (.int (i + j)) H) ∨ (∃ i j, x = .str i ∧ y = .str j ∧ i.length + j.length ≤ sizeLine ∧ Q (.str (i ++ j)) H) ∨ rCat x y H Q
theorem op_or2 {f : Value → Value → Sem Value} {r r' : R2} (h : OpR X f r) (h' : OpR X f r') : OpR X f (fun x y H Q => r x y H Q ∨ r' x y H Q) := by
  intro pins s σ H x y v u Q I rx ry q
  rcases q with q | q
  · exact h pins s σ H x y v u Q I rx ry q
  · exact h' pins s σ H x y v u Q I rx ry q
theorem op_addA : OpR X (binaryOp .Add) rAddA := op_or2 op_add (op_or2 op_add_str op_cat)
theorem ok_add : Ok2 Z W kAdd rAddA := by
  intro A F sl ce v u x y H σ Q so hs rv ru p
  unfold kAdd at p
  split at p
  · exact .inl ⟨_, _, rep_int rv, rep_int ru, fin_flat so p repI⟩
  · split at p
    · rename_i hl
      exact .inr (.inl ⟨_, _, rep_str rv, rep_str ru, by rw [sizeLine_eq]; exact hl, fin_flat so p repS⟩)
    · exact p.elim
  · split at p
    · rename_i xs ys e1 e2
      split at p
      · rename_i hl
        obtain ⟨l, vs, rfl, h1, h2⟩ := asL_rd so rv e1
        obtain ⟨l', vs', rfl, h1', h2'⟩ := asL_rd so ru e2
        exact .inr (.inr ⟨l, l', vs, vs', rfl, rfl, h1, h1', by rw [sizeLine_eq, ← h2.length, ← h2'.length]; exact hl, fun p' hp => fin_newL so p (h2.append h2') hp⟩)
      · exact p.elim
    · exact p.elim
theorem ok_int {k : Val → Val → DE} {C : Int → Int → Prop} {g : Int → Int → D} {gv : Int → Int → V} (hk : ∀ v u sl ce, (∃ i j, v = .im (.int i) ∧ u = .im (.int j) ∧ C i j ∧ k v u sl ce = .ok (.im (g i j)) ce) ∨ k v u sl ce = .stuck)
    (hg : ∀ F i j, Rep Z.toZx F (g i j) (gv i j)) : Ok2 Z W k (rI C gv) := by
  intro A F sl ce v u x y H σ Q so hs rv ru p
  rcases hk v u sl ce with ⟨i, j, rfl, rfl, hc, e⟩ | e
  · rw [e] at p
    exact ⟨i, j, rep_int rv, rep_int ru, hc, fin_flat so p (hg _ _ _)⟩
  · rw [e] at p
    exact p.elim
theorem op_rI0 {f : Value → Value → Sem Value} {g : Int → Int → V} (h : OpR X f (rI0 g)) : OpR X f (rI (fun _ _ => True) g) := by
  intro pins s σ H x y v u Q I rx ry ⟨i, j, e1, e2, _, q⟩
  exact h pins s σ H x y v u Q I rx ry ⟨i, j, e1, e2, q⟩
theorem ok_sub : Ok2 Z W kSub (rI (fun _ _ => True) fun i j => .int (i - j)) := ok_int (g := fun i j => .int (i - j)) (fun v u sl ce => by
  unfold kSub; split
  · exact .inl ⟨_, _, rfl, rfl, trivial, rfl⟩
  · exact .inr rfl) fun _ _ _ => repI
theorem ok_cmp {g : Int → Int → Bool} : Ok2 Z W (kCmp g) (rI (fun _ _ => True) fun i j => .bl (g i j)) := ok_int (g := fun i j => .bl (g i j)) (fun v u sl ce => by
  unfold kCmp; split
  · exact .inl ⟨_, _, rfl, rfl, trivial, rfl⟩
  · exact .inr rfl) fun _ _ _ => repB
def CMulA (i j : Int) : Prop := CMul i j ∨ CMulW i j
theorem op_mulA : OpR X (binaryOp .Mult) (rI CMulA fun i j => .int (i * j)) := by
  intro pins s σ H x y v u Q I rx ry ⟨i, j, e1, e2, hc, q⟩
  rcases hc with hc | hc
  · exact op_mul pins s σ H x y v u Q I rx ry ⟨i, j, e1, e2, hc, q⟩
  · exact op_mulW pins s σ H x y v u Q I rx ry ⟨i, j, e1, e2, hc, q⟩
theorem mulOK_ok {i j : Int} (h : mulOK i j = true) : CMulA i j := by
  unfold mulOK at h
  simp only [Bool.or_eq_true, Bool.and_eq_true, decide_eq_true_eq] at h
  rcases h with ⟨h1, h2⟩ | h | h
  · exact .inr (wide_mul h1 h2 (by decide) (by decide) (by decide))
  · exact .inl (.inl (by constructor <;> omega))
  · exact .inl (.inr (by constructor <;> omega))
theorem ok_mul : Ok2 Z W kMul (rI CMulA fun i j => .int (i * j)) := ok_int (g := fun i j => .int (i * j)) (fun v u sl ce => by
  unfold kMul; split
  · split
    · rename_i h
      exact .inl ⟨_, _, rfl, rfl, mulOK_ok h, rfl⟩
    · exact .inr rfl
  · exact .inr rfl) fun _ _ _ => repI
theorem ok_div : Ok2 Z W kDiv (rI CDiv fun i j => .int (i / j)) := ok_int (g := fun i j => .int (i / j)) (fun v u sl ce => by
  unfold kDiv; split
  · split
    · rename_i h
      exact .inl ⟨_, _, rfl, rfl, h, rfl⟩
    · exact .inr rfl
  · exact .inr rfl) fun _ _ _ => repI
theorem ok_mod : Ok2 Z W kMod (rI (fun _ j => 0 < j) fun i j => .int (i % j)) := ok_int (g := fun i j => .int (i % j)) (fun v u sl ce => by
  unfold kMod; split
  · split
    · rename_i h
      exact .inl ⟨_, _, rfl, rfl, h, rfl⟩
    · exact .inr rfl
  · exact .inr rfl) fun _ _ _ => repI
theorem ok_pow : Ok2 Z W kPow (rI CPow fun i j => .int (i ^ j.toNat)) := ok_int (g := fun i j => .int (i ^ j.toNat)) (fun v u sl ce => by
  unfold kPow; split
  · split
    · rename_i h
      exact .inl ⟨_, _, rfl, rfl, h, rfl⟩
    · exact .inr rfl
  · exact .inr rfl) fun _ _ _ => repI
theorem ok_eqG (neg : Bool) : Ok2 Z W (kEqG neg) (fun x y H Q => ∃ d e, Dp Z.K H x d ∧ Dp Z.K H y e ∧ SeqAt.shaped d = true ∧ SeqAt.shaped e = true ∧ Q (.bl (if neg then !PyData.eqv d e else PyData.eqv d e)) H) := by
  intro A F sl ce v u x y H σ Q so hs rv ru p
  unfold kEqG at p
  split at p
  · rename_i d e e1 e2
    unfold pyEq at p
    cases t1 : toPy d with
    | none => simp only [t1] at p; exact p.elim
    | some p1 =>
      cases t2 : toPy e with
      | none => simp only [t1, t2] at p; exact p.elim
      | some p2 =>
        simp only [t1, t2] at p
        by_cases hs : SeqAt.shaped p1 = true ∧ SeqAt.shaped p2 = true
        · rw [if_pos hs] at p
          exact ⟨p1, p2, asIm_dp so rv e1 t1, asIm_dp so ru e2 t2, hs.1, hs.2, fin_flat so p repB⟩
        · rw [if_neg hs] at p
          exact p.elim
  · exact p.elim
theorem ok_eq : Ok2 Z W kEq (rEqD Z.K) := ok_eqG false
theorem ok_ne : Ok2 Z W kNe (rNeD Z.K) := ok_eqG true
theorem atI_reps {F : Hp} {ds : List D} {vs : List V} {i : Int} {d : D} (r : Reps Z.toZx F ds vs) (e : atI ds i = some d) : ∃ x, atI vs i = some x ∧ Rep Z.toZx F d x := by
  unfold atI at e ⊢
  rw [← r.length]
  cases q : ixN ds.length i with
  | none => rw [q] at e; cases e
  | some j =>
    rw [q] at e
    exact r.get' e
theorem ok_ix : Ok2 Z W kIx (rIx Z.K) := by
  intro A F sl ce v u x y H σ Q so hs rv ru p
  unfold kIx at p
  split at p
  · split at p
    · split at p
      · rename_i hl
        split at p
        · rename_i c hc
          exact .inr (.inr ⟨_, _, c, rep_str rv, rep_int ru, by rw [sizeLine_eq]; exact hl, hc, fin_flat so p repS⟩)
        · exact p.elim
      · exact p.elim
    · split at p
      · rename_i ds e1
        split at p
        · rename_i d e2
          obtain ⟨l, vs, rfl, h1, h2⟩ := asSq_rd so rv e1
          obtain ⟨x, e3, r3⟩ := atI_reps h2 e2
          rcases h1 with h1 | h1
          · exact .inl ⟨l, vs, _, x, rfl, rep_int ru, h1, e3, fin_flat so p r3⟩
          · exact .inr (.inl ⟨l, vs, _, x, rfl, rep_int ru, h1, e3, fin_flat so p r3⟩)
        · exact p.elim
      · exact p.elim
  · exact p.elim
theorem de_c {d : D} {v : V} {e : Expr} (h : PE X e (tC v)) (r : ∀ F, Rep Z.toZx F d v) : PE X e (tE Z W (eC d)) := h.weak fun σ H Q ⟨A, F, sl, ce, so, hs, p⟩ => fin_flat so p (r F)
theorem de_int {i j} : PE X (.Constant (.int i) j pos) (tE Z W (eC (.int i))) := de_c pe_int fun _ => repI
theorem de_str {i j} : PE X (.Constant (.str i) j pos) (tE Z W (eC (.str i))) := de_c pe_str fun _ => repS
theorem de_bl {i j} : PE X (.Constant (.bool i) j pos) (tE Z W (eC (.bl i))) := de_c pe_bl fun _ => repB
theorem de_non {j} : PE X (.Constant .none j pos) (tE Z W (eC .non)) := de_c pe_non fun _ => repN
theorem de_var {e : Expr} {i : Nat} (h : PE X e (tVar i)) : PE X e (tE Z W (eV i)) := h.weak fun σ H Q ⟨A, F, sl, ce, so, hs, p⟩ => by
  unfold eV at p
  split at p
  · rename_i v e
    obtain ⟨x, h1, h2⟩ := hs.is i v e
    exact ⟨x, h1, p A F H x (List.prefix_refl _) (Same.refl _) so h2⟩
  · exact p.elim
theorem dv (i : Nat) {x : Str} {pos : Pos} (hN : X.N[i]? = some x := by rfl) (hv : Vis X.env.scope x := by first | exact Or.inl rfl | exact Or.inr (Or.inl rfl) | exact Or.inr (Or.inr rfl)) (hd : (x == ("__debug__" : Str)) = false := by decide)
    (hcd : (x == ("__classdict__" : Str)) = false := by decide) : PE X (.Name x pos) (tE Z W (eV i)) := de_var (pe_var hN hv hd hcd)
theorem t2 {k : Val → Val → DE} {r : R2} (hk : Ok2 Z W k r) {σ : L2.St} {H : Hp} {Q : VK} (h : tE Z W (eBin k f g) σ H Q) : tE Z W f σ H fun x H1 => tE Z W g σ H1 fun y H2 => r x y H2 Q :=
  tE_imp (fun x H1 h1 => tE_imp (fun y H2 ⟨A, F, sl, ce, v, u, so, hs, rv, ru, p⟩ => hk A F sl ce v u x y H2 σ Q so hs rv ru p) h1) (tE2 h)
theorem de_op {op : Operator} {k : Val → Val → DE} {r : R2} (ho : OpR X (binaryOp op) r) (hk : Ok2 Z W k r) (ha : PE X a (tE Z W f)) (hb : PE X b (tE Z W g)) : PE X (.BinOp a op b pos) (tE Z W (eBin k f g)) :=
  (pe_op ho ha hb).weak fun σ H Q h => t2 hk h
theorem de_add (ha : PE X a (tE Z W f)) (hb : PE X b (tE Z W g)) : PE X (.BinOp a .Add b pos) (tE Z W (eBin kAdd f g)) := de_op op_addA ok_add ha hb
theorem de_sub (ha : PE X a (tE Z W f)) (hb : PE X b (tE Z W g)) : PE X (.BinOp a .Sub b pos) (tE Z W (eBin kSub f g)) := de_op (op_rI0 op_sub) ok_sub ha hb
theorem de_mul (ha : PE X a (tE Z W f)) (hb : PE X b (tE Z W g)) : PE X (.BinOp a .Mult b pos) (tE Z W (eBin kMul f g)) := de_op op_mulA ok_mul ha hb
theorem de_div (ha : PE X a (tE Z W f)) (hb : PE X b (tE Z W g)) : PE X (.BinOp a .FloorDiv b pos) (tE Z W (eBin kDiv f g)) := de_op op_fdiv ok_div ha hb
theorem de_mod (ha : PE X a (tE Z W f)) (hb : PE X b (tE Z W g)) : PE X (.BinOp a .Mod b pos) (tE Z W (eBin kMod f g)) := de_op op_mod ok_mod ha hb
theorem de_pow (ha : PE X a (tE Z W f)) (hb : PE X b (tE Z W g)) : PE X (.BinOp a .Pow b pos) (tE Z W (eBin kPow f g)) := de_op op_pow ok_pow ha hb
theorem de_cmp {op : CmpOp} {k : Val → Val → DE} {r : R2} (ho : OpR X (compareOp op) r) (hk : Ok2 Z W k r) (ha : PE X a (tE Z W f)) (hb : PE X b (tE Z W g)) (hm : behindInMarks op b = false) : PE X (.Compare a [op] [b] pos) (tE Z W (eBin k f g)) :=
  (pe_cmpR ho ha hb hm).weak fun σ H Q h => t2 hk h
/-- a comparison's rule: what it is on values -/
structure CmpK (X : Cx) (Z : Zy) (W : WX) (op : CmpOp) (k : Val → Val → DE) : Prop where
  ex : ∃ r, OpR X (compareOp op) r ∧ Ok2 Z W k r
theorem c_lt : CmpK X Z W .Lt kLt := ⟨_, op_rI0 op_lt, ok_cmp⟩
theorem c_gt : CmpK X Z W .Gt kGt := ⟨_, op_rI0 op_gt, ok_cmp⟩
theorem c_ge : CmpK X Z W .GtE kGe := ⟨_, op_rI0 op_ge, ok_cmp⟩
theorem c_eq {k : Nat} (hK : X.K = Z.K) (hr : Room k X.A) : CmpK X Z W .Eq kEq := ⟨rEqD Z.K, by rw [← hK]; exact op_eqD hr.units, ok_eq⟩
theorem c_ne {k : Nat} (hK : X.K = Z.K) (hr : Room k X.A) : CmpK X Z W .NotEq kNe := ⟨rNeD Z.K, by rw [← hK]; exact op_neD hr.units, ok_ne⟩
theorem de_cmpK {op : CmpOp} {k : Val → Val → DE} (c : CmpK X Z W op k) (ha : PE X a (tE Z W f)) (hb : PE X b (tE Z W g)) (hm : behindInMarks op b = false := by first | exact nomark _ (by decide) (by decide) | rfl) : PE X (.Compare a [op] [b] pos) (tE Z W (eBin k f g)) := by
  obtain ⟨r, ho, hk⟩ := c.ex
  exact de_cmp ho hk ha hb hm
theorem de_ix (hK : X.K = Z.K) (ha : PE X a (tE Z W f)) (hb : PE X b (tE Z W g)) (hs : PlainIx b := by exact fun _ _ => rfl) : PE X (.Subscript a b pos) (tE Z W (eBin kIx f g)) :=
  (pe_ix (r := rIx Z.K) (by rw [← hK]; exact ix_seq) ha hb hs).weak fun σ H Q h => t2 ok_ix h
/-- and, or, not, if: values that are bools -/
theorem PostE.bool {A F σ Q} {k : Bool → DE} {v : Val} {x : V} {sl ce} (r : VRep Z A F v x) (p : PostE Z A F W σ Q (kBool k v sl ce)) : ∃ b, x = .bl b ∧ PostE Z A F W σ Q (k b sl ce) := by
  unfold kBool at p
  split at p
  · exact ⟨_, rep_bl r, p⟩
  · exact p.elim
theorem de_and {rest} (ha : PE X a (tE Z W f)) (hb : PE X (.BoolOp .And (b :: rest) pos) (tE Z W g)) : PE X (.BoolOp .And (a :: b :: rest) pos) (tE Z W (eAnd f g)) :=
  (pe_and ha hb).weak fun σ H Q h => tE_imp (fun x H1 ⟨A, F, sl, ce, v, so, hs, r, p⟩ => by
    obtain ⟨b, rfl, p⟩ := p.bool r
    refine ⟨b, rfl, ?_⟩
    cases b with
    | true => exact iteT ⟨A, F, sl, ce, so, hs, p⟩
    | false => exact iteF (fin_flat so p repB)) (tE1 h)
theorem de_or {rest} (ha : PE X a (tE Z W f)) (hb : PE X (.BoolOp .Or (b :: rest) pos) (tE Z W g)) : PE X (.BoolOp .Or (a :: b :: rest) pos) (tE Z W (eOr f g)) :=
  (pe_or ha hb).weak fun σ H Q h => tE_imp (fun x H1 ⟨A, F, sl, ce, v, so, hs, r, p⟩ => by
    obtain ⟨b, rfl, p⟩ := p.bool r
    refine ⟨b, rfl, ?_⟩
    cases b with
    | true => exact iteT (fin_flat so p repB)
    | false => exact iteF ⟨A, F, sl, ce, so, hs, p⟩) (tE1 h)
theorem de_one {op} (h : PE X a (tE Z W f)) : PE X (.BoolOp op [a] pos) (tE Z W f) := pe_one h
theorem de_not (ha : PE X a (tE Z W f)) : PE X (.UnaryOp .Not a pos) (tE Z W (eNot f)) :=
  (pe_not ha).weak fun σ H Q h => tE_imp (fun x H1 ⟨A, F, sl, ce, v, so, hs, r, p⟩ => by
    obtain ⟨b, rfl, p⟩ := p.bool r
    exact ⟨b, rfl, fin_flat so p repB⟩) (tE1 h)
/-- a test -/
def tT (Z : Zy) (W : WX) (f : DE) : TT := fun σ H Q => tE Z W f σ H fun x H' => ∃ b, x = .bl b ∧ Q b H'
theorem dt_val {e : Expr} (h : PE X e (tE Z W f)) (he : ∀ whole, isTrue e X.env whole = (do let v ← whole; standAt e.pos; holding [v] (truthy v)) := by intro _; rfl) : PT X e (tT Z W f) := pt_val h he
theorem dt_cmp {op : CmpOp} {k : Val → Val → DE} (c : CmpK X Z W op k) (ha : PE X a (tE Z W f)) (hb : PE X b (tE Z W g)) (hm : behindInMarks op b = false := by first | exact nomark _ (by decide) (by decide) | rfl) : PT X (.Compare a [op] [b] pos) (tT Z W (eBin k f g)) := by
  obtain ⟨r, ho, hk⟩ := c.ex
  exact (pt_cmpR ho ha hb hm).weak fun σ H Q h => t2 hk h
theorem dt_tru {e : Expr} (hK : X.K = Z.K) (h : PE X e (tE Z W f)) (he : ∀ whole, isTrue e X.env whole = (do let v ← whole; standAt e.pos; holding [v] (truthy v)) := by intro _; rfl) : PT X e (tT Z W (eTru f)) :=
  (pt_truth h he).weak fun σ H Q q => tE_imp (fun x H1 ⟨A, F, sl, ce, v, so, hs, r, p⟩ => by
    unfold kTru at p
    split at p
    · rename_i b e
      obtain ⟨k, e2, q⟩ := fin_flat so p repB
      cases e2
      exact ⟨b, by rw [hK]; exact truV_ok so r e, q⟩
    · exact p.elim) (tE1 (f := f) (k := kTru) q)
theorem tT_and {σ H Q} (h : tT Z W (eAnd f g) σ H Q) : tAnd (tT Z W f) (tT Z W g) σ H Q := tE_imp (fun x H1 ⟨A, F, sl, ce, v, so, hs, r, p⟩ => by
  obtain ⟨b, rfl, p⟩ := p.bool r
  refine ⟨b, rfl, ?_⟩
  cases b with
  | true => exact iteT ⟨A, F, sl, ce, so, hs, p⟩
  | false =>
    obtain ⟨c, e, q⟩ := fin_flat so p repB
    cases e
    exact iteF q) (tE1 h)
theorem tT_or {σ H Q} (h : tT Z W (eOr f g) σ H Q) : tOr (tT Z W f) (tT Z W g) σ H Q := tE_imp (fun x H1 ⟨A, F, sl, ce, v, so, hs, r, p⟩ => by
  obtain ⟨b, rfl, p⟩ := p.bool r
  refine ⟨b, rfl, ?_⟩
  cases b with
  | true =>
    obtain ⟨c, e, q⟩ := fin_flat so p repB
    cases e
    exact iteT q
  | false => exact iteF ⟨A, F, sl, ce, so, hs, p⟩) (tE1 h)
theorem _root_.L2.PW.weak {e : Expr} {t t' : TT} (h : PW X e t) (hw : ∀ σ H Q, t' σ H Q → t σ H Q) : PW X e t' :=
  ⟨fun w pins s σ H Q I q => h.run w pins s σ H Q I (hw σ H Q q)⟩
theorem dw_and1 (ha : PT X a (tT Z W f)) : PW X (.BoolOp .And [a] pos) (tT Z W f) := pw_and1 ha
theorem dw_or1 (ha : PT X a (tT Z W f)) : PW X (.BoolOp .Or [a] pos) (tT Z W f) := pw_or1 ha
theorem dw_and {rest} (ha : PT X a (tT Z W f)) (hb : PW X (.BoolOp .And (b :: rest) pos) (tT Z W g)) : PW X (.BoolOp .And (a :: b :: rest) pos) (tT Z W (eAnd f g)) := (pw_and ha hb).weak fun _ _ _ h => tT_and h
theorem dw_or {rest} (ha : PT X a (tT Z W f)) (hb : PW X (.BoolOp .Or (b :: rest) pos) (tT Z W g)) : PW X (.BoolOp .Or (a :: b :: rest) pos) (tT Z W (eOr f g)) := (pw_or ha hb).weak fun _ _ _ h => tT_or h
theorem dt_not (ha : PT X a (tT Z W f)) : PT X (.UnaryOp .Not a pos) (tT Z W (eNot f)) := (pt_not ha).weak fun σ H Q h => tE_imp (fun x H1 ⟨A, F, sl, ce, v, so, hs, r, p⟩ => by
  obtain ⟨b, rfl, p⟩ := p.bool r
  obtain ⟨c, e, q⟩ := fin_flat so p repB
  cases e
  exact ⟨b, rfl, q⟩) (tE1 (f := f) (k := kBool fun b => eC (.bl (!b))) h)
theorem de_if {c a b : Expr} (hc : PT X c (tT Z W f)) (ha : PE X a (tE Z W g)) (hb : PE X b (tE Z W h)) : PE X (.IfExp c a b pos) (tE Z W (eIf f g h)) := (pe_ifExp hc ha hb).weak fun σ H Q q => tE_imp (fun x H1 ⟨A, F, sl, ce, v, so, hs, r, p⟩ => by
  obtain ⟨b, rfl, p⟩ := p.bool r
  refine ⟨b, rfl, ?_⟩
  cases b with
  | true => exact iteT ⟨A, F, sl, ce, so, hs, p⟩
  | false => exact iteF ⟨A, F, sl, ce, so, hs, p⟩) (tE1 (f := f) (k := kBool fun b => if b then g else h) q)
end
end ZZ
set_option Elab.async false
set_option linter.all false
set_option maxRecDepth 100000
namespace ZZ
open PySem PySem.Spec L2
def eArgs : List DE → (List Val → DE) → DE
  | [], k => k []
  | f :: fs, k => eBind f fun v => eArgs fs fun vs => k (v :: vs)
def tArgs (Z : Zy) (W : WX) : List DE → TA
  | [] => tNil
  | f :: fs => tCons (tE Z W f) (tArgs Z W fs)
def VReps (Z : Zy) (A : List Addr) (F : Hp) : List Val → List V → Prop
  | [], xs => xs = []
  | v :: vs, xs => ∃ x r, xs = x :: r ∧ VRep Z A F v x ∧ VReps Z A F vs r
section
variable {Z : Zy} {A A' : List Addr} {F F' H : Hp} {ce : List Cell} {sl : Sl} {σ : L2.St} {W : WX} {Q Q' : VK}
theorem VReps.length : ∀ {vs : List Val} {xs : List V}, VReps Z A F vs xs → vs.length = xs.length
  | [], xs, h => by unfold VReps at h; subst h; rfl
  | v :: vs, xs, h => by
    obtain ⟨x, r, rfl, _, h2⟩ := h
    simp [VReps.length h2]
theorem VReps.mono (p : A <+: A') (e : Same F F') : ∀ {vs : List Val} {xs : List V}, VReps Z A F vs xs → VReps Z A' F' vs xs
  | [], xs, h => h
  | v :: vs, xs, h => by
    obtain ⟨x, r, rfl, h1, h2⟩ := h
    exact ⟨x, r, rfl, h1.mono p e, VReps.mono p e h2⟩
theorem vreps1 {v : Val} {xs : List V} (h : VReps Z A F [v] xs) : ∃ x, xs = [x] ∧ VRep Z A F v x := by
  obtain ⟨x, r, rfl, h1, h2⟩ := h
  unfold VReps at h2
  subst h2
  exact ⟨x, rfl, h1⟩
theorem vreps2 {v u : Val} {xs : List V} (h : VReps Z A F [v, u] xs) : ∃ x y, xs = [x, y] ∧ VRep Z A F v x ∧ VRep Z A F u y := by
  obtain ⟨x, r, rfl, h1, h2⟩ := h
  replace h2 := vreps1 h2; obtain ⟨y, rfl, h2⟩ := h2
  exact ⟨x, y, rfl, h1, h2⟩
theorem tArgs_imp : ∀ {fs : List DE} {σ : L2.St} {H : Hp} {Q Q' : List V → Hp → Prop}, (∀ x H, Q x H → Q' x H) → tArgs Z W fs σ H Q → tArgs Z W fs σ H Q'
  | [], _, _, _, _, h, q => h _ _ q
  | f :: fs, _, _, _, _, h, q => tE_imp (fun x H1 q1 => tArgs_imp (fun xs H2 q2 => h _ _ q2) q1) q
theorem tArgs_ok : ∀ {fs : List DE} {k : List Val → DE} {A : List Addr} {F H : Hp} {ce : List Cell}, SO Z.toZx A F ce H → SL Z A F sl σ → PostE Z A F W σ Q (eArgs fs k sl ce) →
    tArgs Z W fs σ H fun xs H1 => ∃ A1 F1 ce1 vs, A <+: A1 ∧ Same F F1 ∧ SO Z.toZx A1 F1 ce1 H1 ∧ VReps Z A1 F1 vs xs ∧ vs.length = fs.length ∧ PostE Z A1 F1 W σ Q (k vs sl ce1)
  | [], k, A, F, H, ce, so, hs, p => ⟨A, F, ce, [], List.prefix_refl _, Same.refl _, so, rfl, rfl, p⟩
  | f :: fs, k, A, F, H, ce, so, hs, p => ⟨A, F, sl, ce, so, hs, (PostE.bind so hs p).imp fun x H1 ⟨A1, F1, ce1, v, p1, e1, s1, r1, q1⟩ =>
      tArgs_imp (fun xs H2 ⟨A2, F2, ce2, vs, p2, e2, s2, r2, l2, q2⟩ => ⟨A2, F2, ce2, v :: vs, p1.trans p2, e1.trans e2, s2, ⟨x, xs, rfl, r1.mono p2 e2, r2⟩, by simp [l2], q2⟩) (tArgs_ok s1 (hs.mono p1 e1) q1)⟩
theorem tN {fs : List DE} {k : List Val → DE} (h : tE Z W (eArgs fs k) σ H Q) :
    tArgs Z W fs σ H fun xs H1 => ∃ A F sl ce vs, SO Z.toZx A F ce H1 ∧ SL Z A F sl σ ∧ VReps Z A F vs xs ∧ vs.length = fs.length ∧ PostE Z A F W σ Q (k vs sl ce) := by
  obtain ⟨A, F, sl, ce, so, hs, p⟩ := h
  exact tArgs_imp (fun xs H2 ⟨A2, F2, ce2, vs, p2, e2, s2, r2, l2, q2⟩ => ⟨A2, F2, sl, ce2, vs, s2, hs.mono p2 e2, r2, l2, q2⟩) (tArgs_ok so hs p)
def ims : List Val → Option (List D)
  | [] => some []
  | .im d :: vs => (ims vs).map (d :: ·)
  | _ :: _ => none
theorem ims_rd : ∀ {vs : List Val} {xs : List V} {ds : List D}, VReps Z A F vs xs → ims vs = some ds → Reps Z.toZx F ds xs
  | [], xs, ds, r, e => by
    unfold VReps at r; subst r; cases e; exact reps_nil
  | .im d :: vs, xs, ds, r, e => by
    obtain ⟨x, r', rfl, h1, h2⟩ := r
    unfold ims at e
    cases q : ims vs with
    | none => rw [q] at e; cases e
    | some es => rw [q] at e; cases e; exact reps_cons h1 (ims_rd h2 q)
  | .cell _ :: _, xs, ds, r, e => by cases e
  | .exn _ _ :: _, xs, ds, r, e => by cases e
end
def kTup (vs : List Val) : DE := fun _ ce => match ims vs with
  | some ds => if ds.length ≤ LINE then .ok (.im (.tup ds)) ce else .stuck
  | none => .stuck
def kLst (vs : List Val) : DE := fun _ ce => match ims vs with
  | some ds => if ds.length ≤ LINE then .ok (.im (.lst ds)) ce else .stuck
  | none => .stuck
def kLstC (vs : List Val) : DE := fun _ ce => match ims vs with
  | some ds => if ds.length ≤ LINE then .ok (.cell ce.length) (ce ++ [.lst ds]) else .stuck
  | none => .stuck
def OkN (Z : Zy) (W : WX) (k : List Val → DE) (r : List V → Hp → VK → Prop) : Prop := ∀ A F sl ce vs xs H σ Q, SO Z.toZx A F ce H → SL Z A F sl σ → VReps Z A F vs xs → PostE Z A F W σ Q (k vs sl ce) → r xs H Q
section
variable {X : Cx} {Z : Zy} {W : WX} {a b c : Expr} {es : List Expr} {f g h : DE} {fs : List DE} {pos : Pos}
theorem da_nil : PA X [] (tArgs Z W []) := pa_nil
theorem da_cons {e : Expr} (ha : PE X e (tE Z W f)) (hr : PA X es (tArgs Z W fs)) (hs : starEach (e :: es) X.env = (false, eval e X.env) :: starEach es X.env := by rfl) : PA X (e :: es) (tArgs Z W (f :: fs)) := pa_cons ha hr hs
theorem de_tup {n} (ha : PA X es (tArgs Z W fs)) : PE X (.Tuple es n pos) (tE Z W (eArgs fs kTup)) := (pe_tup ha).weak fun σ H Q h => tArgs_imp (fun xs H1 ⟨A, F, sl, ce, vs, so, hs, r, _, p⟩ => by
  unfold kTup at p
  split at p
  · rename_i ds e
    have rr := ims_rd (Z := Z) r e
    split at p
    · rename_i hl
      exact ⟨by rw [sizeLine_eq, ← rr.length]; exact hl, fun q hq => fin_newT so p rr hq⟩
    · exact p.elim
  · exact p.elim) (tN h)
theorem de_lst (ha : PA X es (tArgs Z W fs)) : PE X (.List es pos) (tE Z W (eArgs fs kLst)) := (pe_lst ha).weak fun σ H Q h => tArgs_imp (fun xs H1 ⟨A, F, sl, ce, vs, so, hs, r, _, p⟩ => by
  unfold kLst at p
  split at p
  · rename_i ds e
    have rr := ims_rd (Z := Z) r e
    split at p
    · rename_i hl
      exact ⟨by rw [sizeLine_eq, ← rr.length]; exact hl, fun q hq => fin_newL so p rr hq⟩
    · exact p.elim
  · exact p.elim) (tN h)
theorem de_lstC (ha : PA X es (tArgs Z W fs)) : PE X (.List es pos) (tE Z W (eArgs fs kLstC)) := (pe_lst ha).weak fun σ H Q h => tArgs_imp (fun xs H1 ⟨A, F, sl, ce, vs, so, hs, r, _, p⟩ => by
  unfold kLstC at p
  split at p
  · rename_i ds e
    have rr := ims_rd (Z := Z) r e
    split at p
    · rename_i hl
      exact ⟨by rw [sizeLine_eq, ← rr.length]; exact hl, fun q hq => fin_newC so p rr hq⟩
    · exact p.elim
  · exact p.elim) (tN h)
theorem de_callB {id : String} {x : Str} {p : Pos} {e : Expr} {k : List Val → DE} {r : List V → Hp → VK → Prop} (hc : CallR X (.builtin id) r) (hk : OkN Z W k r) (hm : X.mg x = none) (hv : bootBuiltins x = some (.builtin id)) (ha : PA X (e :: es) (tArgs Z W fs))
    (hg : Gl X x := by rfl) (hn : x ≠ "__name__" := by decide) (hdb : (x == ("__debug__" : Str)) = false := by decide)
    (he : starEach (e :: es) X.env = (false, eval e X.env) :: starEach es X.env := by rfl) (hpl : (backTo pos (starEach es X.env)).any (·.1) = false := by rfl) : PE X (.Call (.Name x p) (e :: es) [] pos) (tE Z W (eArgs fs k)) :=
  (pe_callB hc hg hm hv ha hn hdb he hpl).weak fun σ H Q h => tArgs_imp (fun xs H1 ⟨A, F, sl, ce, vs, so, hs, r, _, p⟩ => hk A F sl ce vs xs H1 σ Q so hs r p) (tN h)
theorem de_callTy {T : String} {x : Str} {p : Pos} {e : Expr} {k : List Val → DE} {r : List V → Hp → VK → Prop} (hc : CallR X (.type T) r) (hk : OkN Z W k r) (hm : X.mg x = none) (hv : bootBuiltins x = some (.type T)) (ha : PA X (e :: es) (tArgs Z W fs))
    (hg : Gl X x := by rfl) (hn : x ≠ "__name__" := by decide) (hdb : (x == ("__debug__" : Str)) = false := by decide)
    (he : starEach (e :: es) X.env = (false, eval e X.env) :: starEach es X.env := by rfl) (hpl : (backTo pos (starEach es X.env)).any (·.1) = false := by rfl) : PE X (.Call (.Name x p) (e :: es) [] pos) (tE Z W (eArgs fs k)) :=
  (pe_callTy hc hg hm hv ha hn hdb he hpl).weak fun σ H Q h => tArgs_imp (fun xs H1 ⟨A, F, sl, ce, vs, so, hs, r, _, p⟩ => hk A F sl ce vs xs H1 σ Q so hs r p) (tN h)
end
def kLen : List Val → DE
  | [v] => fun _ ce => match v with
    | .im (.str s) => if s.length ≤ LINE then .ok (.im (.int s.length)) ce else .stuck
    | v => match asSq ce v with
      | some ds => .ok (.im (.int ds.length)) ce
      | none => .stuck
  | _ => kStuck
def kAbs : List Val → DE
  | [.im (.int i)] => eC (.int (if i < 0 then -i else i))
  | _ => kStuck
def kMin : List Val → DE
  | [.im (.int i), .im (.int j)] => eC (.int (if j < i then j else i))
  | _ => kStuck
def kMax : List Val → DE
  | [.im (.int i), .im (.int j)] => eC (.int (if j > i then j else i))
  | _ => kStuck
def kInt : List Val → DE
  | [.im (.int i)] => eC (.int i)
  | [.im (.bl k)] => eC (.int (if k then 1 else 0))
  | _ => kStuck
section
variable {X : Cx} {Z : Zy} {W : WX} {A : List Addr} {F H : Hp} {ce : List Cell} {sl : Sl} {σ : L2.St} {Q : VK}
theorem ok_len (hK : X.K = Z.K) : OkN Z W kLen (fun xs H Q => ∃ x n, xs = [x] ∧ LenV X.K x H n ∧ Q (.int n) H) := by
  intro A F sl ce vs xs H σ Q so hs r p
  rw [hK]
  unfold kLen at p
  split at p
  · replace r := vreps1 r; obtain ⟨x, rfl, r⟩ := r
    split at p
    · split at p
      · rename_i s hl
        rw [rep_str r]
        exact ⟨_, s.length, rfl, ⟨by rw [sizeLine_eq]; exact hl, rfl⟩, fin_flat so p repI⟩
      · exact p.elim
    · split at p
      · rename_i ds e
        obtain ⟨l, ws, rfl, h1, h2⟩ := asSq_rd so r e
        refine ⟨_, ds.length, rfl, ?_, fin_flat so p repI⟩
        rcases h1 with h1 | h1
        · exact .inl ⟨ws, h1, h2.length⟩
        · exact .inr ⟨ws, h1, h2.length⟩
      · exact p.elim
  · exact p.elim
theorem ok_abs : OkN Z W kAbs (fun xs H Q => ∃ i, xs = [.int i] ∧ Q (.int (if i < 0 then -i else i)) H) := by
  intro A F sl ce vs xs H σ Q so hs r p
  unfold kAbs at p
  split at p
  · replace r := vreps1 r; obtain ⟨x, rfl, r⟩ := r
    rw [rep_int r]
    exact ⟨_, rfl, fin_flat so p repI⟩
  · exact p.elim
theorem ok_min : OkN Z W kMin (fun xs H Q => ∃ i j, xs = [.int i, .int j] ∧ Q (.int (if j < i then j else i)) H) := by
  intro A F sl ce vs xs H σ Q so hs r p
  unfold kMin at p
  split at p
  · replace r := vreps2 r; obtain ⟨x, y, rfl, r, r'⟩ := r
    rw [rep_int r, rep_int r']
    exact ⟨_, _, rfl, fin_flat so p repI⟩
  · exact p.elim
theorem ok_int1 : OkN Z W kInt (fun xs H Q => (∃ i, xs = [.int i] ∧ Q (.int i) H) ∨ ∃ k, xs = [.bl k] ∧ Q (.int (if k then 1 else 0)) H) := by
  intro A F sl ce vs xs H σ Q so hs r p
  unfold kInt at p
  split at p
  · replace r := vreps1 r; obtain ⟨x, rfl, r⟩ := r
    rw [rep_int r]
    exact .inl ⟨_, rfl, fin_flat so p repI⟩
  · replace r := vreps1 r; obtain ⟨x, rfl, r⟩ := r
    rw [rep_bl r]
    exact .inr ⟨_, rfl, fin_flat so p repI⟩
  · exact p.elim
end
def OkM (Z : Zy) (W : WX) (K : PySem.W.Frag) (T : String) (ty : List Cell → Val → Bool) (k : Val → List Val → DE) (r : V → List V → Hp → VK → Prop) : Prop :=
  (∀ A F ce v x H, SO Z.toZx A F ce H → VRep Z A F v x → ty ce v = true → tyV K T x H) ∧
  ∀ A F sl ce v x vs xs H σ Q, SO Z.toZx A F ce H → SL Z A F sl σ → VRep Z A F v x → VReps Z A F vs xs → PostE Z A F W σ Q (k v vs sl ce) → r x xs H Q
/-- the value's type is looked at, then the arguments -/
def eMth (ty : List Cell → Val → Bool) (k : Val → List Val → DE) (f : DE) (fs : List DE) : DE := eBind f fun v sl ce => if ty ce v then eArgs fs (k v) sl ce else .stuck
def tyL (ce : List Cell) (v : Val) : Bool := (asL ce v).isSome
def tyS (_ : List Cell) : Val → Bool
  | .im (.str _) => true
  | _ => false
section
variable {X : Cx} {Z : Zy} {W : WX} {o e : Expr} {es : List Expr} {f g h : DE} {fs : List DE} {pos apos cpos : Pos} {T id : String} {name : Str} {ty : List Cell → Val → Bool} {k : Val → List Val → DE} {r : V → List V → Hp → VK → Prop}
theorem de_bm (pa : PlainAttrs T) (slot : Slot T name id) (hty : typeOf (.builtin id) = pure (.type "method_descriptor")) (hm : MtR X id r) (hk : OkM Z W X.K T ty k r) (ho : PE X o (tE Z W f)) (ha : PA X (e :: es) (tArgs Z W fs))
    (hb : attributeBase o name X.env (eval o X.env) = eval o X.env := by rfl) (hl : (apos.endLine == cpos.line) = true := by rfl) (hs : starEach (e :: es) X.env = (false, eval e X.env) :: starEach es X.env := by rfl) (hpl : (backTo cpos (starEach es X.env)).any (·.1) = false := by rfl) (hfew : ((backTo cpos (starEach (e :: es) X.env)).all (fun x => !x.1) && (backToKw cpos (keywordEach [] X.env)).all (fun x => x.1.isSome)
      && decide ((e :: es).length + ([] : List Keyword).length + (if ([] : List Keyword).isEmpty then 0 else 1) < 30)) = true := by rfl) :
    PE X (.Call (.Attribute o name apos) (e :: es) [] cpos) (tE Z W (eMth ty k f fs)) := by
  refine (pe_bm pa slot hty hm ho ha hb hfew hl hs hpl).weak fun σ H Q q => tE_imp (fun x H1 ⟨A, F, sl, ce, v, so, hs, r, p⟩ => ?_) (tE1 q)
  by_cases ht : ty ce v = true
  · rw [if_pos ht] at p
    exact ⟨hk.1 A F ce v x H1 so r ht, tArgs_imp (fun xs H2 ⟨A2, F2, ce2, vs, p2, e2, s2, r2, l2, q2⟩ => hk.2 A2 F2 sl ce2 v x vs xs H2 σ Q s2 (hs.mono p2 e2) (r.mono p2 e2) r2 q2) (tArgs_ok so hs p)⟩
  · rw [if_neg ht] at p
    exact p.elim
end
section
variable {X : Cx} {Z : Zy} {W : WX}
theorem tyL_ok (hK : X.K = Z.K) : ∀ (A : List Addr) (F : Hp) (ce : List Cell) (v : Val) (x : V) (H : Hp), SO Z.toZx A F ce H → VRep Z A F v x → tyL ce v = true → tyV X.K "list" x H := by
  intro A F ce v x H so r t
  unfold tyL at t
  cases e : asL ce v with
  | none => rw [e] at t; cases t
  | some ds =>
    obtain ⟨l, ws, rfl, h1, h2⟩ := asL_rd so r e
    exact .inl ⟨rfl, ws, SqL.of h1⟩
theorem tyS_ok : ∀ (A : List Addr) (F : Hp) (ce : List Cell) (v : Val) (x : V) (H : Hp), SO Z.toZx A F ce H → VRep Z A F v x → tyS ce v = true → tyV X.K "str" x H := by
  intro A F ce v x H so r t
  unfold tyS at t
  split at t
  · rw [rep_str r]; rfl
  · cases t
end
def kAppend (v : Val) (vs : List Val) : DE := fun _ ce => match v, vs with
  | .cell n, [.im d] => match ce[n]? with
    | some (.lst ds) => if ds.length < LINE then .ok (.im .non) (ce.set n (.lst (ds ++ [d]))) else .stuck
    | _ => .stuck
  | _, _ => .stuck
/-- xs.pop(i) -/
def kPopAt (v : Val) (vs : List Val) : DE := fun _ ce => match v, vs with
  | .cell n, [.im (.int i)] => match ce[n]? with
    | some (.lst ds) => if -(2 ^ 63) ≤ i ∧ i < 2 ^ 63 then (match seqIndex? i ds.length with
      | some j => match ds[j]? with
        | some d => .ok (.im d) (ce.set n (.lst (ds.eraseIdx j)))
        | none => .stuck
      | none => .stuck) else .stuck
    | _ => .stuck
  | _, _ => .stuck
section
variable {X : Cx} {Z : Zy} {W : WX}
theorem cell_rd {A F ce H n x ds} (so : SO Z.toZx A F ce H) (r : VRep Z A F (.cell n) x) (hk : ce[n]? = some (.lst ds)) : ∃ l vs, A[n]? = some l ∧ x = .ref l ∧ F l = none ∧ H l = some (.lst vs) ∧ Reps Z.toZx F ds vs := by
  obtain ⟨a, h1, rfl⟩ := r
  obtain ⟨h0, vs, h2, h3⟩ := so.ok n a _ h1 hk
  exact ⟨a, vs, h1, rfl, h0, h2, h3⟩
theorem fin_write {A F ce H n l ds vs d x σ Q} (so : SO Z.toZx A F ce H) (hA : A[n]? = some l) (hF : F l = none) (r : Reps Z.toZx F ds vs) (rd : Rep Z.toZx F d x) (p : PostE Z A F W σ Q (.ok (.im d) (ce.set n (.lst ds)))) : Q x (upd H l (.lst vs)) :=
  p A F _ _ (List.prefix_refl _) (Same.refl _) (so.write hA hF ⟨hF, vs, upd_same, r⟩) rd
theorem okm_append (hK : X.K = Z.K) : OkM Z W X.K "list" tyL kAppend rAppend := by
  refine ⟨tyL_ok hK, fun A F sl ce v x vs xs H σ Q so hs rv rs p => ?_⟩
  unfold kAppend at p
  split at p
  · split at p
    · rename_i n d ds hk
      split at p
      · rename_i hl
        obtain ⟨l, ws, hA, rfl, hF, h2, h3⟩ := cell_rd so rv hk
        obtain ⟨y, rfl, ry⟩ := vreps1 rs
        exact ⟨l, ws, y, rfl, rfl, h2, by rw [sizeLine_eq, ← h3.length]; exact hl, fin_write so hA hF (h3.append (reps_cons ry reps_nil)) repN p⟩
      · exact p.elim
    · exact p.elim
  · exact p.elim
theorem okm_popAt (hK : X.K = Z.K) : OkM Z W X.K "list" tyL kPopAt rPopAt := by
  refine ⟨tyL_ok hK, fun A F sl ce v x vs xs H σ Q so hs rv rs p => ?_⟩
  unfold kPopAt at p
  split at p
  · split at p
    · rename_i n i _ ds hk
      split at p
      · rename_i hb
        split at p
        · rename_i j hj
          split at p
          · rename_i d hd
            obtain ⟨l, ws, hA, rfl, hF, h2, h3⟩ := cell_rd so rv hk
            obtain ⟨y, rfl, ry⟩ := vreps1 rs
            obtain ⟨y, hy, rd⟩ := h3.get' hd
            rw [rep_int ry]
            exact ⟨l, ws, i, j, y, rfl, rfl, h2, hb.1, hb.2, by rw [← h3.length]; exact hj, hy, fin_write so hA hF (h3.eraseIdx j) rd p⟩
          · exact p.elim
        · exact p.elim
      · exact p.elim
    · exact p.elim
  · exact p.elim
theorem de_append {o e : Expr} {f g : DE} {apos cpos : Pos} (hK : X.K = Z.K) (ho : PE X o (tE Z W f)) (ha : PE X e (tE Z W g))
    (hb : attributeBase o "append" X.env (eval o X.env) = eval o X.env := by rfl) (hl : (apos.endLine == cpos.line) = true := by rfl) (hs : starEach [e] X.env = (false, eval e X.env) :: starEach [] X.env := by rfl) (hfew : ((backTo cpos (starEach [e] X.env)).all (fun x => !x.1) && (backToKw cpos (keywordEach [] X.env)).all (fun x => x.1.isSome)
      && decide ([e].length + ([] : List Keyword).length + (if ([] : List Keyword).isEmpty then 0 else 1) < 30)) = true := by rfl) :
    PE X (.Call (.Attribute o "append" apos) [e] [] cpos) (tE Z W (eMth tyL kAppend f [g])) :=
  de_bm PySem.F.plainAttrs_list PySem.F.slot_list_append PySem.F.type_list_append mt_append (okm_append hK) ho (da_cons ha da_nil hs) hb hl hs rfl hfew
theorem de_popAt {o e : Expr} {f g : DE} {apos cpos : Pos} (hK : X.K = Z.K) (ho : PE X o (tE Z W f)) (ha : PE X e (tE Z W g))
    (hb : attributeBase o "pop" X.env (eval o X.env) = eval o X.env := by rfl) (hl : (apos.endLine == cpos.line) = true := by rfl) (hs : starEach [e] X.env = (false, eval e X.env) :: starEach [] X.env := by rfl) (hfew : ((backTo cpos (starEach [e] X.env)).all (fun x => !x.1) && (backToKw cpos (keywordEach [] X.env)).all (fun x => x.1.isSome)
      && decide ([e].length + ([] : List Keyword).length + (if ([] : List Keyword).isEmpty then 0 else 1) < 30)) = true := by rfl) :
    PE X (.Call (.Attribute o "pop" apos) [e] [] cpos) (tE Z W (eMth tyL kPopAt f [g])) :=
  de_bm PySem.F.plainAttrs_list PySem.F.slot_list_pop PySem.F.type_list_pop mt_popAt (okm_popAt hK) ho (da_cons ha da_nil hs) hb hl hs rfl hfew
end
end ZZ
set_option Elab.async false
set_option linter.all false
set_option maxRecDepth 100000
namespace ZZ
open PySem PySem.Spec L2
inductive Out where
  | nx (sl : Sl) (ce : List Cell) | rt (v : Val) (ce : List Cell) | bk (sl : Sl) (ce : List Cell) | ct (sl : Sl) (ce : List Cell)
  | exc (c : Nat) (ds : List D) (sl : Sl) (ce : List Cell) | stuck
abbrev DSt := Sl → List Cell → Out
def PostS (Z : Zy) (A : List Addr) (F : Hp) (W : WX) (D : Ends) : Out → Prop
  | .nx sl ce => ∀ A' F' H' σ', A <+: A' → Same F F' → SO Z.toZx A' F' ce H' → SL Z A' F' sl σ' → D.nx σ' H'
  | .bk sl ce => ∀ A' F' H' σ', A <+: A' → Same F F' → SO Z.toZx A' F' ce H' → SL Z A' F' sl σ' → D.bk σ' H'
  | .ct sl ce => ∀ A' F' H' σ', A <+: A' → Same F F' → SO Z.toZx A' F' ce H' → SL Z A' F' sl σ' → D.ct σ' H'
  | .rt v ce => ∀ A' F' H' x, A <+: A' → Same F F' → SO Z.toZx A' F' ce H' → VRep Z A' F' v x → D.rt x H'
  | .exc c ds sl ce => ∀ A' F' H' σ' dx, A <+: A' → Same F F' → SO Z.toZx A' F' ce H' → SL Z A' F' sl σ' → ExcOk Z.toZx F' c ds dx → W (.ref (Z.cl c)) dx σ' H'
  | .stuck => False
def tS (Z : Zy) (W : WX) (f : DSt) : TS := fun D σ H => ∃ A F sl ce, SO Z.toZx A F ce H ∧ SL Z A F sl σ ∧ PostS Z A F W D (f sl ce)
def sSeq (f g : DSt) : DSt := fun sl ce => match f sl ce with
  | .nx sl' ce' => g sl' ce'
  | o => o
def sNil : DSt := fun sl ce => .nx sl ce
def sExp (f : DE) (k : Val → DSt) : DSt := fun sl ce => match f sl ce with
  | .ok v ce' => k v sl ce'
  | .exc c ds ce' => .exc c ds sl ce'
  | .stuck => .stuck
def sSet (i : Nat) (f : DE) : DSt := sExp f fun v sl ce => .nx (sl.set i (some v)) ce
def sRet (f : DE) : DSt := sExp f fun v _ ce => .rt v ce
def sDrop (f : DE) : DSt := sExp f fun _ sl ce => .nx sl ce
def sStuck : DSt := fun _ _ => .stuck
def sIf (c : DE) (f g : DSt) : DSt := sExp c fun v => match v with
  | .im (.bl b) => if b then f else g
  | _ => sStuck
/-- a ghost step: the cell at slot i is settled -/
def frz (i : Nat) (f : DSt) : DSt := fun sl ce => match sl[i]? with
  | some (some (.cell k)) => match ce[k]? with
    | some (.lst ds) => f (sl.set i (some (.im (.lst ds)))) (ce.set k .dead)
    | some (.dct ks vs) => f (sl.set i (some (.im (.dct ks vs)))) (ce.set k .dead)
    | _ => .stuck
  | _ => .stuck
section
variable {Z : Zy} {A A' : List Addr} {F F' H : Hp} {ce : List Cell} {sl : Sl} {σ : L2.St} {W : WX} {Q Q' : VK} {D D' : Ends}
theorem PostS.mono {r : Out} (p : A <+: A') (e : Same F F') (h : PostS Z A F W D r) : PostS Z A' F' W D r := by
  cases r with
  | stuck => exact h
  | exc c ds sl ce => exact fun A2 F2 H2 x dx p2 e2 => h A2 F2 H2 x dx (p.trans p2) (e.trans e2)
  | nx sl ce => exact fun A2 F2 H2 x p2 e2 => h A2 F2 H2 x (p.trans p2) (e.trans e2)
  | rt sl ce => exact fun A2 F2 H2 x p2 e2 => h A2 F2 H2 x (p.trans p2) (e.trans e2)
  | bk sl ce => exact fun A2 F2 H2 x p2 e2 => h A2 F2 H2 x (p.trans p2) (e.trans e2)
  | ct sl ce => exact fun A2 F2 H2 x p2 e2 => h A2 F2 H2 x (p.trans p2) (e.trans e2)
theorem PostS.imp {r : Out} (h1 : ∀ σ H, D.nx σ H → D'.nx σ H) (h2 : ∀ x H, D.rt x H → D'.rt x H) (h3 : ∀ σ H, D.bk σ H → D'.bk σ H) (h4 : ∀ σ H, D.ct σ H → D'.ct σ H) (h : PostS Z A F W D r) : PostS Z A F W D' r := by
  cases r with
  | nx sl ce => exact fun A2 F2 H2 x p2 e2 s l => h1 _ _ (h A2 F2 H2 x p2 e2 s l)
  | rt v ce => exact fun A2 F2 H2 x p2 e2 s l => h2 _ _ (h A2 F2 H2 x p2 e2 s l)
  | bk sl ce => exact fun A2 F2 H2 x p2 e2 s l => h3 _ _ (h A2 F2 H2 x p2 e2 s l)
  | ct sl ce => exact fun A2 F2 H2 x p2 e2 s l => h4 _ _ (h A2 F2 H2 x p2 e2 s l)
  | exc c ds sl ce => exact h
  | stuck => exact h
theorem PostS.exp {f : DE} {k : Val → DSt} (so : SO Z.toZx A F ce H) (hs : SL Z A F sl σ) (h : PostS Z A F W D (sExp f k sl ce)) :
    PostE Z A F W σ (fun x H1 => ∃ A1 F1 ce1 v, A <+: A1 ∧ Same F F1 ∧ SO Z.toZx A1 F1 ce1 H1 ∧ VRep Z A1 F1 v x ∧ PostS Z A1 F1 W D (k v sl ce1)) (f sl ce) := by
  unfold sExp at h
  cases e : f sl ce with
  | ok v ce1 =>
    rw [e] at h
    exact fun A1 F1 H1 x p1 e1 s1 r1 => ⟨A1, F1, ce1, v, p1, e1, s1, r1, h.mono p1 e1⟩
  | exc c ds ce1 =>
    rw [e] at h
    exact fun A1 F1 H1 dx p1 e1 s1 x1 => h A1 F1 H1 σ dx p1 e1 s1 (hs.mono p1 e1) x1
  | stuck =>
    rw [e] at h
    exact h.elim
theorem tS1 {f : DE} {k : Val → DSt} (h : tS Z W (sExp f k) D σ H) :
    tE Z W f σ H fun x H1 => ∃ A F sl ce v, SO Z.toZx A F ce H1 ∧ SL Z A F sl σ ∧ VRep Z A F v x ∧ PostS Z A F W D (k v sl ce) := by
  obtain ⟨A, F, sl, ce, so, hs, p⟩ := h
  exact ⟨A, F, sl, ce, so, hs, (PostS.exp so hs p).imp fun x H1 ⟨A1, F1, ce1, v, p1, e1, s1, r1, q1⟩ => ⟨A1, F1, sl, ce1, v, s1, hs.mono p1 e1, r1, q1⟩⟩
theorem nxS (so : SO Z.toZx A F ce H) (hs : SL Z A F sl σ) (p : PostS Z A F W D (.nx sl ce)) : D.nx σ H := p A F H σ (List.prefix_refl _) (Same.refl _) so hs
end
section
variable {X : Cx} {Z : Zy} {W : WX} {st : Stmt} {sts : List Stmt} {f g : DSt} {e : Expr} {fe : DE} {pos : Pos}
theorem ds_nil : PSs X [] (tS Z W sNil) := pss_nil.weak fun D σ H ⟨A, F, sl, ce, so, hs, p⟩ => nxS so hs p
theorem ds_cons (h1 : PS X st (tS Z W f)) (h2 : PSs X sts (tS Z W g)) : PSs X (st :: sts) (tS Z W (sSeq f g)) := (pss_cons h1 h2).weak fun D σ H ⟨A, F, sl, ce, so, hs, p⟩ => by
  refine ⟨A, F, sl, ce, so, hs, ?_⟩
  unfold sSeq at p
  cases e : f sl ce with
  | nx sl1 ce1 =>
    rw [e] at p
    exact fun A1 F1 H1 σ1 p1 e1 s1 l1 => ⟨A1, F1, sl1, ce1, s1, l1, p.mono p1 e1⟩
  | rt v ce => rw [e] at p; exact p
  | bk v ce => rw [e] at p; exact p
  | ct v ce => rw [e] at p; exact p
  | exc c ds sl ce => rw [e] at p; exact p
  | stuck => rw [e] at p; exact p
theorem ds_one (h1 : PS X st (tS Z W f)) : PSs X [st] (tS Z W f) := pss_one h1
theorem ds_set {i : Nat} {x : Str} {pos' : Pos} (hN : X.N.Nodup) (he : PE X e (tE Z W fe)) (hi : X.N[i]? = some x := by rfl) (hx : Loc X.env.scope x := by first | exact Or.inl rfl | exact Or.inr rfl) (hs : swapsWith e (some (.Name x pos')) pos.line X.env = pure false := by rfl)
    (hf : X.fn x = true ∨ X.env.scope.names.lookup x = some .local := by first | exact .inl rfl | exact .inr rfl) : PS X (.Assign [.Name x pos'] e pos) (tS Z W (sSet i fe)) :=
  (ps_set hN hi hx he hs hf).weak fun D σ H h => tE_imp (fun x H1 ⟨A, F, sl, ce, v, so, hs, r, p⟩ => nxS so (hs.set r) p) (tS1 h)
theorem ds_ret (he : PE X e (tE Z W fe)) : PS X (.Return (some e) pos) (tS Z W (sRet fe)) :=
  (ps_ret he).weak fun D σ H h => tE_imp (fun x H1 ⟨A, F, sl, ce, v, so, hs, r, p⟩ => p A F H1 x (List.prefix_refl _) (Same.refl _) so r) (tS1 h)
theorem ds_expr (he : PE X e (tE Z W fe)) (hs : swapsWith e none pos.line X.env = pure false := by rfl) : PS X (.Expr e pos) (tS Z W (sDrop fe)) :=
  (ps_expr he hs).weak fun D σ H h => tE_imp (fun x H1 ⟨A, F, sl, ce, v, so, hs, r, p⟩ => nxS so hs p) (tS1 h)
theorem ds_if {c : Expr} {a b : List Stmt} (hc : PT X c (tT Z W fe)) (ha : PSs X a (tS Z W f)) (hb : PSs X b (tS Z W g)) : PS X (.If c a b pos) (tS Z W (sIf fe f g)) :=
  (ps_if hc ha hb).weak fun D σ H h => tE_imp (fun x H1 ⟨A, F, sl, ce, v, so, hs, r, p⟩ => by
    split at p
    · rename_i b
      refine ⟨b, rep_bl r, ?_⟩
      cases b with
      | true => exact iteT ⟨A, F, sl, ce, so, hs, p⟩
      | false => exact iteF ⟨A, F, sl, ce, so, hs, p⟩
    · exact p.elim) (tS1 h)
theorem tS_frz {i : Nat} {D σ H} (h : tS Z W (frz i f) D σ H) : tS Z W f D σ H := by
  obtain ⟨A, F, sl, ce, so, hs, p⟩ := h
  unfold frz at p
  split at p
  · rename_i k e1
    split at p
    · rename_i ds e2
      obtain ⟨x, h1, a, hA, rfl⟩ := hs.is i _ e1
      obtain ⟨hF, vs, hH, r⟩ := so.ok k a _ hA e2
      have up := same_up (o := .lst vs) hF
      have hs2 : SL Z A (upd F a (.lst vs)) (sl.set i (some (.im (.lst ds)))) σ := by
        have q := (hs.mono (List.prefix_refl _) up).set (i := i) (v := .im (.lst ds)) (x := .ref a) (by unfold VRep Rep; exact ⟨a, vs, rfl, upd_same, r.mono up⟩)
        have e3 : σ.set i (some (.ref a)) = σ := List.ext_getElem? fun j => by
          by_cases hj : i = j
          · subst hj
            rw [List.getElem?_set_self (List.getElem?_eq_some_iff.mp h1).1, h1]
          · rw [List.getElem?_set_ne hj]
        rw [e3] at q
        exact q
      exact ⟨A, upd F a (.lst vs), _, _, so.freeze hA hF hH, hs2, p.mono (List.prefix_refl _) up⟩
    · rename_i ks vs e2
      obtain ⟨x, h1, a, hA, rfl⟩ := hs.is i _ e1
      obtain ⟨hF, o, kvs, vvs, hH, sh, r1, r2⟩ := so.ok k a _ hA e2
      have up := same_up (o := o) hF
      have hs2 : SL Z A (upd F a o) (sl.set i (some (.im (.dct ks vs)))) σ := by
        have q := (hs.mono (List.prefix_refl _) up).set (i := i) (v := .im (.dct ks vs)) (x := .ref a) (by unfold VRep Rep; exact ⟨a, o, kvs, vvs, rfl, upd_same, sh, r1.mono up, r2.mono up⟩)
        have e3 : σ.set i (some (.ref a)) = σ := List.ext_getElem? fun j => by
          by_cases hj : i = j
          · subst hj
            rw [List.getElem?_set_self (List.getElem?_eq_some_iff.mp h1).1, h1]
          · rw [List.getElem?_set_ne hj]
        rw [e3] at q
        exact q
      exact ⟨A, upd F a o, _, _, so.freeze hA hF hH, hs2, p.mono (List.prefix_refl _) up⟩
    · exact p.elim
  · exact p.elim
theorem ds_frz {i : Nat} (h : PS X st (tS Z W f)) : PS X st (tS Z W (frz i f)) := h.weak fun D σ H q => tS_frz q
/-- x op= e -/
def sAug (i : Nat) (k : Val → Val → DE) (f : DE) : DSt := fun sl ce => match sl[i]? with
  | some (some v) => sSet i (eBind f (k v)) sl ce
  | _ => .stuck
theorem ds_aug {i : Nat} {x : Str} {op : Operator} {ti : TIp} {k : Val → Val → DE} {pos' : Pos} (hN : X.N.Nodup) (he : PE X e (tE Z W fe)) (ho : PIp X op ti) (hk : Ok2 Z W k ti) (hi : X.N[i]? = some x := by rfl) (hx : Loc X.env.scope x := by first | exact Or.inl rfl | exact Or.inr rfl)
    (hf : X.fn x = true ∨ X.env.scope.names.lookup x = some .local := by first | exact .inl rfl | exact .inr rfl) : PS X (.AugAssign (.Name x pos') op e pos) (tS Z W (sAug i k fe)) :=
  (ps_aug hN hi hx he ho hf).weak fun D σ H ⟨A, F, sl, ce, so, hs, p⟩ => by
    unfold sAug at p
    split at p
    · rename_i v e1
      obtain ⟨x, h1, r⟩ := hs.is i v e1
      refine ⟨x, h1, ?_⟩
      have p' := PostS.exp so hs p
      refine ⟨A, F, sl, ce, so, hs, (PostE.bind so hs p').imp fun y H1 ⟨A1, F1, ce1, u, p1, e1, s1, r1, q1⟩ => ?_⟩
      exact hk A1 F1 sl ce1 v u x y H1 σ _ s1 (hs.mono p1 e1) (r.mono p1 e1) r1 (q1.imp fun z H2 ⟨A2, F2, ce2, w, p2, e2, s2, r2, q2⟩ => nxS s2 ((hs.mono p2 e2).set r2) q2)
    · exact p.elim
theorem ip_addA : PIp X .Add (rI (fun _ _ => True) fun i j => .int (i + j)) := by
  intro pins s σ H x y v u Q I rx ry ⟨i, j, e1, e2, _, q⟩
  exact ip_add pins s σ H x y v u Q I rx ry ⟨i, j, e1, e2, q⟩
def kAddI (v u : Val) : DE := fun _ ce => match v, u with
  | .im (.int i), .im (.int j) => .ok (.im (.int (i + j))) ce
  | _, _ => .stuck
theorem ok_addI : Ok2 Z W kAddI (rI (fun _ _ => True) fun i j => .int (i + j)) := ok_int (g := fun i j => .int (i + j)) (fun v u sl ce => by
  unfold kAddI; split
  · exact .inl ⟨_, _, rfl, rfl, trivial, rfl⟩
  · exact .inr rfl) fun _ _ _ => repI
end
abbrev GD : Type := D → Sl → Option Sl
def gN (i : Nat) : GD := fun d sl => some (sl.set i (some (.im d)))
def gL : List GD → List D → Sl → Option Sl
  | [], [], sl => some sl
  | g :: gs, d :: ds, sl => (g d sl).bind fun sl' => gL gs ds sl'
  | _, _, _ => none
def gT (gs : List GD) : GD := fun d sl => match d with
  | .tup ds => gL gs ds sl
  | _ => none
/-- the slots but those at ix are as they were -/
def Agree (ix : List Nat) (σ σ' : L2.St) : Prop := σ'.length = σ.length ∧ ∀ j : Nat, j ∉ ix → σ'[j]? = σ[j]?
def tG (Z : Zy) (ix : List Nat) (g : GD) : TG := fun v σ H Q => ∃ A F sl ce d, SO Z.toZx A F ce H ∧ SL Z A F sl σ ∧ Rep Z.toZx F d v ∧ ∃ sl', g d sl = some sl' ∧ ∀ σ', SL Z A F sl' σ' → Agree ix σ σ' → Q σ' H
def tGs (Z : Zy) (ix : List Nat) (gs : List GD) : TGs := fun vs σ H Q => ∃ A F sl ce ds, SO Z.toZx A F ce H ∧ SL Z A F sl σ ∧ Reps Z.toZx F ds vs ∧ ∃ sl', gL gs ds sl = some sl' ∧ ∀ σ', SL Z A F sl' σ' → Agree ix σ σ' → Q σ' H
section
variable {X : Cx} {Z : Zy} {W : WX} {e : Expr} {es : List Expr} {g : GD} {gs : List GD} {ix ix' : List Nat} {pos : Pos}
theorem pg_weak {t t' : TG} (h : PG X e t) (hw : ∀ v σ H Q, t' v σ H Q → t v σ H Q) : PG X e t' := ⟨fun pins s σ H v u Q I r q => h.run pins s σ H v u Q I r (hw _ _ _ _ q)⟩
theorem pgs_weak {t t' : TGs} (h : PGs X es t) (hw : ∀ v σ H Q, t' v σ H Q → t v σ H Q) : PGs X es t' := ⟨fun pins s σ H v u Q I r q => h.run pins s σ H v u Q I r (hw _ _ _ _ q)⟩
theorem dg_name {i : Nat} {x : Str} (hN : X.N.Nodup) (hi : X.N[i]? = some x := by rfl) (hx : Loc X.env.scope x := by first | exact Or.inl rfl | exact Or.inr rfl)
    (hf : X.fn x = true ∨ X.env.scope.names.lookup x = some .local := by first | exact .inl rfl | exact .inr rfl) : PG X (.Name x pos) (tG Z [i] (gN i)) :=
  pg_weak (pg_name hN hi hx hf) fun v σ H Q ⟨A, F, sl, ce, d, so, hs, r, sl', e, q⟩ => by
    cases e
    refine q _ (hs.set r) ⟨by simp, fun j hj => ?_⟩
    have : i ≠ j := fun z => hj (by simp [z])
    rw [List.getElem?_set_ne this]
theorem dgs_nil : PGs X [] (tGs Z [] []) := pgs_weak pgs_nil fun v σ H Q ⟨A, F, sl, ce, ds, so, hs, r, sl', e, q⟩ => by
  cases ds with
  | nil =>
    cases e
    exact ⟨reps_nil_inv r, q σ hs ⟨rfl, fun _ _ => rfl⟩⟩
  | cons d ds => cases e
theorem dgs_cons (h1 : PG X e (tG Z ix g)) (h2 : PGs X es (tGs Z ix' gs)) (hs : (assignEach (e :: es) X.env).map (·.2) = assign e X.env :: (assignEach es X.env).map (·.2) := by rfl) : PGs X (e :: es) (tGs Z (ix ++ ix') (g :: gs)) := pgs_weak (pgs_cons h1 h2 hs) fun vs σ H Q ⟨A, F, sl, ce, ds, so, hs, r, sl', e, q⟩ => by
  cases ds with
  | nil => cases e
  | cons d ds =>
    obtain ⟨v, r', rfl, h1, h2⟩ := reps_cons_inv r
    refine ⟨v, r', rfl, A, F, sl, ce, d, so, hs, h1, ?_⟩
    unfold gL at e
    cases e1 : g d sl with
    | none => rw [e1] at e; cases e
    | some sl1 =>
      rw [e1] at e
      exact ⟨sl1, rfl, fun σ1 l1 a1 => ⟨A, F, sl1, ce, ds, so, l1, h2, sl', e, fun σ2 l2 a2 => q σ2 l2 ⟨a2.1.trans a1.1, fun j hj => (a2.2 j fun z => hj (by simp [z])).trans (a1.2 j fun z => hj (by simp [z]))⟩⟩⟩
theorem gL_len : ∀ {gs : List GD} {ds : List D} {sl sl' : Sl}, gL gs ds sl = some sl' → ds.length = gs.length
  | [], [], _, _, _ => rfl
  | [], _ :: _, _, _, h => by cases h
  | _ :: _, [], _, _, h => by cases h
  | g :: gs, d :: ds, sl, sl', h => by
    unfold gL at h
    cases e1 : g d sl with
    | none => rw [e1] at h; cases h
    | some sl1 => rw [e1] at h; simp [gL_len (show gL gs ds sl1 = some sl' from h)]
theorem dg_tup {k : Nat} (hK : X.K = Z.K) (hc : X.calm = true) (h : PGs X es (tGs Z ix gs)) (hl : (assignEach es X.env).length = gs.length := by rfl) (hst : (assignEach es X.env).findIdx? (·.1) = none := by rfl) : PG X (.Tuple es k pos) (tG Z ix (gT gs)) := pg_weak (pg_tup hc h hl hst) fun v σ H Q ⟨A, F, sl, ce, d, so, hs, r, sl', e, q⟩ => by
  unfold gT at e
  split at e
  · rename_i ds
    unfold Rep at r
    obtain ⟨a, vs, rfl, h1, h2⟩ := r
    exact ⟨a, vs, rfl, by rw [hK]; exact same_seqT so.sub h1, by rw [← h2.length, gL_len e], A, F, sl, ce, ds, so, hs, h2, sl', e, q⟩
  · cases e
end
inductive IOut where
  | ok (ds : List D) (ce : List Cell) | exc (c : Nat) (ds : List D) (ce : List Cell) | stuck
abbrev DI := Sl → List Cell → IOut
def JOk (Z : Zx) (F : Hp) (J : It) (ds : List D) : Prop := ∀ F1 H i, Same F F1 → Same F1 H → (i = ds.length → J.stop i H) ∧
  ∀ d, ds[i]? = some d → J.go i H ∧ ∀ x H', J.yld i H x H' → (Rep Z F1 d x ∧ H' = H) ∨ ∃ p o, H p = none ∧ H' = upd H p o ∧ Rep Z (upd F1 p o) d x
def tI (Z : Zy) (W : WX) (f : DI) : TI := fun σ H R => ∃ A F sl ce, SO Z.toZx A F ce H ∧ SL Z A F sl σ ∧ match f sl ce with
  | .ok ds ce' => ∀ A' F' H' J, A <+: A' → Same F F' → SO Z.toZx A' F' ce' H' → JOk Z.toZx F' J ds → R J H'
  | .exc c ds ce' => ∀ A' F' H' dx, A <+: A' → Same F F' → SO Z.toZx A' F' ce' H' → ExcOk Z.toZx F' c ds dx → W (.ref (Z.cl c)) dx σ H'
  | .stuck => False
def iExp (f : DE) (k : Val → Option (List D)) : DI := fun sl ce => match f sl ce with
  | .ok v ce' => match k v with
    | some ds => .ok ds ce'
    | none => .stuck
  | .exc c ds ce' => .exc c ds ce'
  | .stuck => .stuck
def itL : Val → Option (List D)
  | .im (.lst ds) => some ds
  | .im (.wl ds) => some ds
  | _ => none
def itT : Val → Option (List D)
  | .im (.tup ds) => some ds
  | _ => none
def signs (z : Str) : List D := z.cps.toList.map fun c => .str ⟨#[c]⟩
def itS : Val → Option (List D)
  | .im (.str z) => some (signs z)
  | _ => none
section
variable {X : Cx} {Z : Zy} {W : WX} {tg e : Expr} {f : DE} {k : Val → Option (List D)} {pos : Pos}
theorem tI1 {σ H R} (h : tI Z W (iExp f k) σ H R) : tE Z W f σ H fun x H1 => ∃ A F ce v ds, SO Z.toZx A F ce H1 ∧ VRep Z A F v x ∧ k v = some ds ∧ ∀ J, JOk Z.toZx F J ds → R J H1 := by
  obtain ⟨A, F, sl, ce, so, hs, p⟩ := h
  refine ⟨A, F, sl, ce, so, hs, ?_⟩
  unfold iExp at p
  cases e : f sl ce with
  | ok v ce1 =>
    simp only [e] at p
    cases e2 : k v with
    | none => simp only [e2] at p
    | some ds =>
      simp only [e2] at p
      exact fun A1 F1 H1 x p1 e1 s1 r1 => ⟨A1, F1, ce1, v, ds, s1, r1, e2, fun J hJ => p A1 F1 H1 J p1 e1 s1 hJ⟩
  | exc c ds ce1 => simp only [e] at p; exact p
  | stuck => simp only [e] at p
theorem _root_.L2.PI.weak {t t' : TI} (h : PI X tg e t) (hw : ∀ σ H R, t' σ H R → t σ H R) : PI X tg e t' := ⟨fun pins s σ H R I q => h.run pins s σ H R I (hw _ _ _ q)⟩
theorem di_list (hK : X.K = Z.K) (he : PE X e (tE Z W f)) : PI X tg e (tI Z W (iExp f itL)) := (pi_list he).weak fun σ H R h => tE_imp (fun x H1 ⟨A, F, ce, v, ds, so, r, e, q⟩ => by
  unfold itL at e
  have key : ∀ a vs, SqL Z.K F a vs → Reps Z.toZx F ds vs → x = .ref a → ∃ a, x = .ref a ∧ (∃ xs, SqL X.K H1 a xs) ∧ R (Itl X.K a) H1 := fun a vs hl rr ex => by
    rw [hK]
    refine ⟨a, ex, ⟨vs, so.sub.seq hl⟩, q _ fun F1 H i e1 e2 => ?_⟩
    have hl' := e2.seq (e1.seq hl)
    refine ⟨fun h => ⟨vs, hl', by rw [h, rr.length]; exact Nat.le_refl _⟩, fun d hd => ?_⟩
    obtain ⟨v, hv, rv⟩ := rr.get' hd
    refine ⟨⟨vs, v, hl', hv⟩, fun x H' ⟨eH, hx⟩ => .inl ⟨?_, eH⟩⟩
    have := hx vs hl'
    rw [hv] at this
    cases this
    exact rv.mono e1
  split at e
  · cases e
    unfold VRep Rep at r
    obtain ⟨a, vs, ex, h1, h2⟩ := r
    exact key a vs (SqL.of h1) h2 ex
  · cases e
    unfold VRep Rep at r
    obtain ⟨a, vs, ex, h1, h2⟩ := r
    exact key a vs h1 h2 ex
  · cases e) (tI1 h)
theorem jok_s {F : Hp} (z : Str) : JOk Z.toZx F (Its z) (signs z) := by
  intro F1 H i e1 e2
  have hsz : (signs z).length = z.cps.size := by simp [signs]
  refine ⟨fun h => by show z.cps.size ≤ i; omega, fun d hd => ?_⟩
  have hi : i < z.cps.size := by rw [← hsz]; exact (List.getElem?_eq_some_iff.mp hd).1
  refine ⟨hi, fun x H' ⟨eH, c, hc, ex⟩ => .inl ⟨?_, eH⟩⟩
  have : d = .str ⟨#[c]⟩ := by
    unfold signs at hd
    rw [List.getElem?_map, Array.getElem?_toList, hc] at hd
    cases hd
    rfl
  rw [this, ex]
  exact repS
theorem di_str (he : PE X e (tE Z W f)) : PI X tg e (tI Z W (iExp f itS)) := (pi_str he).weak fun σ H R h => tE_imp (fun x H1 ⟨A, F, ce, v, ds, so, r, e, q⟩ => by
  unfold itS at e
  split at e
  · rename_i z
    cases e
    exact ⟨z, rep_str r, q _ (jok_s z)⟩
  · cases e) (tI1 h)
end
def forD (g : GD) (body : DSt) : List D → DSt
  | [], sl, ce => .nx sl ce
  | d :: ds, sl, ce => match g d sl with
    | none => .stuck
    | some sl1 => match body sl1 ce with
      | .nx sl2 ce2 => forD g body ds sl2 ce2
      | .ct sl2 ce2 => forD g body ds sl2 ce2
      | .bk sl2 ce2 => .nx sl2 ce2
      | o => o
def sFor (fi : DI) (g : GD) (body : DSt) : DSt := fun sl ce => match fi sl ce with
  | .ok ds ce' => forD g body ds sl ce'
  | .exc c ds ce' => .exc c ds sl ce'
  | .stuck => .stuck
section
variable {X : Cx} {Z : Zy} {W : WX} {tg iter : Expr} {fi : DI} {ix : List Nat} {g : GD} {fb : DSt} {body : List Stmt} {pos : Pos}
theorem ds_for (hp : PassesOwn (model X.prog X.w) X.A X.env X.xe) (hi : PI X tg iter (tI Z W fi)) (hg : PG X tg (tG Z ix g)) (hb : PSs X body (tS Z W fb)) (hc : X.calm = true := by rfl)
    (hs : ∀ x, foldedSetIterable iter X.env x = pure x := by intro _; rfl) : PS X (.For tg iter body [] pos) (tS Z W (sFor fi g fb)) := by
  refine (ps_for hp hc hi hg hb hs).weak fun D σ H ⟨A, F, sl, ce, so, hs, p⟩ => ⟨A, F, sl, ce, so, hs, ?_⟩
  unfold sFor at p
  cases e : fi sl ce with
  | stuck => rw [e] at p; exact p.elim
  | exc c ds ce1 =>
    rw [e] at p
    exact fun A1 F1 H1 dx p1 e1 s1 x1 => p A1 F1 H1 σ dx p1 e1 s1 (hs.mono p1 e1) x1
  | ok ds ce1 =>
    rw [e] at p
    intro A1 F1 H1 J p1 e1 so1 hJ
    refine ⟨fun i m σ H => m = ds.length - i ∧ i ≤ ds.length ∧ ∃ A F sl ce, Same F1 F ∧ SO Z.toZx A F ce H ∧ SL Z A F sl σ ∧ PostS Z A F W D (forD g fb (ds.drop i) sl ce),
      ⟨ds.length, rfl, Nat.zero_le _, A1, F1, sl, ce1, Same.refl _, so1, hs.mono p1 e1, p.mono p1 e1⟩, ?_⟩
    rintro i m σ H ⟨rfl, hi, A, F, sl, ce, eF, so, hs, p⟩
    obtain ⟨j1, j2⟩ := hJ F H i eF so.sub
    by_cases hlt : i < ds.length
    · have hd : ds[i]? = some ds[i] := List.getElem?_eq_getElem hlt
      obtain ⟨go, yl⟩ := j2 _ hd
      refine .inr ⟨go, fun σ H => i + 1 ≤ ds.length ∧ ∃ A F sl ce, Same F1 F ∧ SO Z.toZx A F ce H ∧ SL Z A F sl σ ∧ PostS Z A F W D (forD g fb (ds.drop (i + 1)) sl ce), fun σ' H' q => ⟨ds.length - (i + 1), by omega, rfl, q⟩, fun x H' hy => ?_⟩
      rw [List.drop_eq_getElem_cons hlt] at p
      have fin : ∀ F2 H2, Same F F2 → SO Z.toZx A F2 ce H2 → Rep Z.toZx F2 ds[i] x → tG Z ix g x σ H2 fun σ2 H3 => tS Z W fb { D with nx := fun σ H => i + 1 ≤ ds.length ∧ ∃ A F sl ce, Same F1 F ∧ SO Z.toZx A F ce H ∧ SL Z A F sl σ ∧ PostS Z A F W D (forD g fb (ds.drop (i + 1)) sl ce), ct := fun σ H => i + 1 ≤ ds.length ∧ ∃ A F sl ce, Same F1 F ∧ SO Z.toZx A F ce H ∧ SL Z A F sl σ ∧ PostS Z A F W D (forD g fb (ds.drop (i + 1)) sl ce), bk := D.nx } σ2 H3 := by
        intro F2 H2 e2 so2 r2
        refine ⟨A, F2, sl, ce, ds[i], so2, hs.mono (List.prefix_refl _) e2, r2, ?_⟩
        unfold forD at p
        cases eg : g ds[i] sl with
        | none => rw [eg] at p; exact p.elim
        | some sl1 =>
          rw [eg] at p
          refine ⟨sl1, rfl, fun σ' hs' _ => ⟨A, F2, sl1, ce, so2, hs', ?_⟩⟩
          simp only at p
          cases eb : fb sl1 ce with
          | nx sl2 ce2 => rw [eb] at p; exact fun A3 F3 H3 σ3 p3 e3 so3 hs3 => ⟨hlt, A3, F3, sl2, ce2, (eF.trans e2).trans e3, so3, hs3, p.mono p3 (e2.trans e3)⟩
          | ct sl2 ce2 => rw [eb] at p; exact fun A3 F3 H3 σ3 p3 e3 so3 hs3 => ⟨hlt, A3, F3, sl2, ce2, (eF.trans e2).trans e3, so3, hs3, p.mono p3 (e2.trans e3)⟩
          | bk sl2 ce2 => rw [eb] at p; exact fun A3 F3 H3 σ3 p3 e3 so3 hs3 => p A3 F3 H3 σ3 p3 (e2.trans e3) so3 hs3
          | rt v ce2 => rw [eb] at p; exact fun A3 F3 H3 x3 p3 e3 so3 hs3 => p A3 F3 H3 x3 p3 (e2.trans e3) so3 hs3
          | exc c es sl2 ce2 => rw [eb] at p; exact fun A3 F3 H3 σ3 dx p3 e3 so3 hs3 => p A3 F3 H3 σ3 dx p3 (e2.trans e3) so3 hs3
          | stuck => rw [eb] at p; exact p.elim
      rcases yl x H' hy with ⟨rx, rfl⟩ | ⟨q, o, hq, rfl, rx⟩
      · exact fin F _ (Same.refl _) so rx
      · exact fin _ _ (same_up (so.fnone hq)) (so.new hq) rx
    · have ei : i = ds.length := by omega
      refine .inl ⟨j1 ei, ?_⟩
      rw [ei, List.drop_length] at p
      exact nxS so hs p
end
end ZZ
set_option Elab.async false
set_option linter.all false
set_option maxRecDepth 100000
namespace L2
open PySem PySem.Spec PyProof.Rows
def ItEz (x : Str) : It := ⟨fun i _ => i < x.cps.size, fun i H v H' => ∃ T c, v = .ref T ∧ H T = none ∧ H' = upd H T (.tup [.int (i : Nat), .str ⟨#[c]⟩]) ∧ x.cps[i]? = some c, fun i _ => i = x.cps.size⟩
theorem strIter_cases (x : Str) : strIterType x = "str_ascii_iterator" ∨ strIterType x = "str_iterator" := by
  unfold strIterType
  split
  · exact .inl rfl
  · exact .inr rfl
theorem draws_str {prog : Program} {w : World} {A : Around} (hh : A.handled = none) (it : Addr) (x : Str) (t : Tok) :
    ∃ P : Nat → Value → Prop, Draws prog w A it [it] x.cps.size P (fun i h => h.IsStrIter it (strIterType x) x t i) ∧ ∀ i v, P i v → ∃ c u, x.cps[i]? = some c ∧ v = .str ⟨#[c]⟩ u := by
  rcases strIter_cases x with e | e
  · rw [e]
    exact ⟨_, Draws.strAscii hh it x t, fun i v h => h⟩
  · rw [e]
    exact ⟨_, Draws.strWide hh it x t, fun i v h => h⟩
theorem turn_enumS {P : Program} {w : World} {K : PySem.W.Frag} {elts : List Expr} {kk : Nat} {tpos : Pos} (x : Str) (t : Tok) (e it : Addr) :
    Turn P w K (.Tuple elts kk tpos) (ItEz x) [e, it] e (fun i h => (∃ old, IsEnum h e it ((i : Nat) : Int) old) ∧ h.IsStrIter it (strIterType x) x t i ∧ e ≠ it) where
  mem := by simp
  obj := fun i h st b hb => by
    obtain ⟨⟨old, he⟩, ⟨o, ho, hc, hd⟩, _⟩ := st
    have e' : b = e ∨ b = it := by simpa using hb
    rcases e' with z | z
    · rw [z]; exact ⟨_, he, fun v q => nomatch q⟩
    · rw [z]; exact ⟨o, ho, fun v q => by rw [hd] at q; cases q⟩
  keep := fun i h h' st k => let ⟨⟨old, he⟩, hi, hne⟩ := st; ⟨⟨old, k e (by simp) _ he⟩, (let ⟨o, ho, r⟩ := hi; ⟨o, k it (by simp) o ho, r⟩), hne⟩
  item := by
    intro X hP hw hK hc i pins s σ H E I hf st hg
    subst hP hw hK
    obtain ⟨⟨old, he⟩, hit, hne⟩ := st
    have hel : e < s.heap.objs.size := Heap.lt_size he
    have hil : it < s.heap.objs.size := by obtain ⟨_, q, _⟩ := hit; exact Heap.lt_size q
    obtain ⟨PP, DD, hPP⟩ := draws_str (prog := X.prog) (w := X.w) (A := X.A.in1) (I.ok.hd hc) it x t
    refine wpAny_pyNext_enum_itemD DD he hit hg hne (by simp [hne]) fun v h' tk hv ho hit' hT hsz hk => ?_
    obtain ⟨c, u, hcx, rfl⟩ := hPP i v hv
    refine ⟨_, rfl, wpAny_letOwnedTupleGo_enum (s := { s with heap := h', toks := tk + 1 }) ho fun h'' he' sb => ?_⟩
    have hT2 : h''.get? s.heap.objs.size = some { cls := .type "tuple", data := .seq #[.int i tk, .str ⟨#[c]⟩ u] } := (sb.2 _ (Nat.ne_of_gt hel)).trans hT
    have new : ObjOk X.prog X.w (upd H s.heap.objs.size (.tup [.int (i : Nat), .str ⟨#[c]⟩])) h'' s.heap.objs.size (.tup [.int (i : Nat), .str ⟨#[c]⟩]) :=
      ⟨by show 2 ≤ sizeLine; decide, [.int i tk, .str ⟨#[c]⟩ u], .cons ⟨_, rfl⟩ (.cons ⟨_, rfl⟩ .nil), ⟨_, hT2, rfl, _, rfl⟩⟩
    have I1 : Inv X pins σ (upd H s.heap.objs.size (.tup [.int (i : Nat), .str ⟨#[c]⟩])) { s with heap := h'', toks := tk + 1 } :=
      I.turnedNew (ch := [e, it]) (fun b ob hb q => (sb.2 b (fun z => hb (by simp [z]))).trans (hk b ob (fun z => hb (by simp [z])) (fun z => hb (by simp [z])) q)) hf (Nat.le_refl _) new
    refine ⟨.ref s.heap.objs.size, _, I1, rfl, ⟨_, c, rfl, I.hok.fresh (Nat.le_refl _), rfl, hcx⟩, ⟨⟨.str ⟨#[c]⟩ u, ?_⟩, (let ⟨o, ho, r⟩ := hit'; ⟨o, (sb.2 it (Ne.symm hne)).trans ho, r⟩), hne⟩, fun b hb => ?_⟩
    · have e1 : ((i + 1 : Nat) : Int) = (i : Int) + 1 := by omega
      rw [e1]; exact he'
    · have hb' : b < s.heap.objs.size := by
        have e' : b = e ∨ b = it := by simpa using hb
        rcases e' with z | z
        · rw [z]; exact hel
        · rw [z]; exact hil
      rw [upd_ne (Nat.ne_of_lt hb')]
      exact (hf b hb).1
  done := by
    intro X hP hw hK hc i pins s σ H E I hf st hg
    subst hP hw hK
    obtain ⟨⟨old, he⟩, hit, hne⟩ := st
    obtain ⟨f0, f1, f2, f3, f4, f5⟩ := hf it (by simp)
    obtain ⟨PP, DD, hPP⟩ := draws_str (prog := X.prog) (w := X.w) (A := X.A.in1) (I.ok.hd hc) it x t
    have hg' : i = x.cps.size := hg
    subst hg'
    exact wpAny_pyNext_enum_endD DD he hit fun h' eb => ⟨rfl, I.turned (t' := s.toks) (fun b o hb q => eb b o hb q) f0 f1 f3 f4 f5⟩
  self := fun A i s Q E st h => let ⟨⟨_, he⟩, _⟩ := st; wpAny_pyIter_enum he h
def iEnumS (ta : TA) : TI := fun σ H R => ta σ H fun vs H1 => ∃ x, vs = [.str x] ∧ R (ItEz x) H1
theorem pi_enumS {X : Cx} {e : Expr} {ta : TA} {p pos tpos : Pos} {elts : List Expr} {kk : Nat} (hg : Gl X "enumerate") (hm : X.mg "enumerate" = none) (ha : PA X [e] ta) (hs : starEach [e] X.env = [(false, eval e X.env)] := by rfl) :
    PI X (.Tuple elts kk tpos) (.Call (.Name "enumerate" p) [e] [] pos) (iEnumS ta) := by
  refine ⟨fun pins s σ H R I h => ?_⟩
  refine Call_ (ld_blt I hg hm boot_enumerate (PyProof.Rows.callWith_type1 (thn (ha.run pos pins s σ H _ I h) fun us s1 ⟨vs, H1, I1, r1, q1⟩ => ?_) hs rfl))
  obtain ⟨x, ex, q⟩ := q1
  subst ex
  cases r1 with
  | cons r rr =>
    cases rr
    obtain ⟨t, rfl⟩ := r
    refine call_enumerate_str fun h' he hit hsz hk => wpAny_pyIter_enum he ?_
    have I2 : Inv X pins σ H1 { s1 with heap := h' } := I1.kept (t' := s1.toks) hk
    refine ⟨s1.heap.objs.size + 1, [s1.heap.objs.size + 1, s1.heap.objs.size], _, _, H1, rfl, I2, turn_enumS x t (s1.heap.objs.size + 1) s1.heap.objs.size, ⟨⟨.none, he⟩, hit, Nat.succ_ne_self _⟩, fun b hb => ?_, q⟩
    have e' : b = s1.heap.objs.size + 1 ∨ b = s1.heap.objs.size := by simpa using hb
    have hle : s1.heap.objs.size ≤ b := by
      rcases e' with z | z
      · rw [z]; exact Nat.le_add_right _ _
      · rw [z]; exact Nat.le_refl _
    exact I1.fpOk hle (I1.hok.fresh hle)
end L2
namespace ZZ
open PySem PySem.Spec L2
def rangeD (lo c : Int) (n : Nat) : List D := (List.range n).map fun (i : Nat) => D.int (lo + (i : Int) * c)
def enumD (ds : List D) : List D := (List.range ds.length).filterMap fun (i : Nat) => ds[i]?.map fun d => D.tup [.int (i : Int), d]
/-- the walk of a call with arguments -/
def iArgs (fs : List DE) (k : List Val → Option (List D)) : DI := iExp (eArgs fs fun vs _ ce => match k vs with
  | some ds => .ok (.im (.lst ds)) ce
  | none => .stuck) itL
def isz (i : Int) : Bool := Nat.ble i.natAbs 4611686018427387903
theorem isz_of {i : Int} (h : -(2 ^ 62) < i ∧ i < 2 ^ 62) : isz i = true := by
  unfold isz
  rw [Nat.ble_eq]
  omega
def kRng1 : List Val → Option (List D)
  | [.im (.int j)] => if isz j then some (rangeD 0 1 j.toNat) else none
  | _ => none
def kEnumS : List Val → Option (List D)
  | [.im (.str z)] => some (enumD (signs z))
  | _ => none
section
variable {X : Cx} {Z : Zy} {W : WX} {tg e : Expr} {fs : List DE} {k : List Val → Option (List D)} {pos : Pos}
/-- the arguments' end, without an object of its own -/
theorem tIN {σ H R} (h : tI Z W (iArgs fs k) σ H R) : tArgs Z W fs σ H fun xs H1 => ∃ A F ce vs ds, SO Z.toZx A F ce H1 ∧ VReps Z A F vs xs ∧ k vs = some ds ∧ ∀ J, JOk Z.toZx F J ds → R J H1 := by
  obtain ⟨A, F, sl, ce, so, hs, p⟩ := h
  unfold iArgs iExp at p
  have key : PostE Z A F W σ (fun _ _ => True) (eArgs fs (fun vs _ ce => match k vs with
      | some ds => .ok (.im (.lst ds)) ce
      | none => .stuck) sl ce) → True := fun _ => trivial
  -- the walk's wish as a wish on the arguments
  let kk : List Val → DE := fun vs _ ce => match k vs with
    | some ds => .ok (.im (.lst ds)) ce
    | none => .stuck
  have go : ∀ (fs : List DE) (kv : List Val → DE) (A : List Addr) (F H : Hp) (ce : List Cell) (pre : List Val), SO Z.toZx A F ce H → SL Z A F sl σ → (∀ vs, kv vs = kk (pre ++ vs)) →
      (match (match eArgs fs kv sl ce with
        | .ok v ce' => (match itL v with
          | some ds => IOut.ok ds ce'
          | none => IOut.stuck)
        | .exc c ds ce' => IOut.exc c ds ce'
        | .stuck => IOut.stuck) with
      | .ok ds ce' => ∀ A' F' H' J, A <+: A' → Same F F' → SO Z.toZx A' F' ce' H' → JOk Z.toZx F' J ds → R J H'
      | .exc c ds ce' => ∀ A' F' H' dx, A <+: A' → Same F F' → SO Z.toZx A' F' ce' H' → ExcOk Z.toZx F' c ds dx → W (.ref (Z.cl c)) dx σ H'
      | .stuck => False) →
      tArgs Z W fs σ H fun xs H1 => ∃ A1 F1 ce1 vs ds, A <+: A1 ∧ Same F F1 ∧ SO Z.toZx A1 F1 ce1 H1 ∧ VReps Z A1 F1 vs xs ∧ k (pre ++ vs) = some ds ∧ ∀ J, JOk Z.toZx F1 J ds → R J H1 := by
    intro fs
    induction fs with
    | nil =>
      intro kv A F H ce pre so hs hkv p
      unfold eArgs at p
      rw [hkv] at p
      simp only [kk] at p
      cases e : k (pre ++ []) with
      | none => simp only [e] at p
      | some ds =>
        simp only [e, itL] at p
        exact ⟨A, F, ce, [], ds, List.prefix_refl _, Same.refl _, so, rfl, e, fun J hJ => p A F H J (List.prefix_refl _) (Same.refl _) so hJ⟩
    | cons f fs ih =>
      intro kv A F H ce pre so hs hkv p
      unfold eArgs eBind at p
      refine ⟨A, F, sl, ce, so, hs, ?_⟩
      cases e : f sl ce with
      | stuck => simp only [e] at p
      | exc c ds ce1 => simp only [e] at p; exact p
      | ok v ce1 =>
        simp only [e] at p
        intro A1 F1 H1 x p1 e1 so1 r1
        refine tArgs_imp (fun xs H2 ⟨A2, F2, ce2, vs, ds, p2, e2, so2, r2, hk, q⟩ => ⟨A2, F2, ce2, v :: vs, ds, p1.trans p2, e1.trans e2, so2, ⟨x, xs, rfl, r1.mono p2 e2, r2⟩, by simpa using hk, q⟩)
          (ih (fun vs => kv (v :: vs)) A1 F1 H1 ce1 (pre ++ [v]) so1 (hs.mono p1 e1) (fun vs => by simp [hkv]) ?_)
        revert p
        cases eArgs fs (fun vs => kv (v :: vs)) sl ce1 with
        | stuck => exact id
        | exc c ds ce2 => exact fun p A' F' H' dx pp ee => p A' F' H' dx (p1.trans pp) (e1.trans ee)
        | ok u ce2 =>
          dsimp only
          cases itL u with
          | none => exact id
          | some ds => exact fun p A' F' H' J pp ee => p A' F' H' J (p1.trans pp) (e1.trans ee)
  exact tArgs_imp (fun xs H2 ⟨A2, F2, ce2, vs, ds, p2, e2, so2, r2, hk, q⟩ => ⟨A2, F2, ce2, vs, ds, so2, r2, by simpa using hk, q⟩) (go fs kk A F H ce [] so hs (fun vs => rfl) p)
theorem repIx {Z : Zx} {F : Hp} {i : Int} : Rep Z F (.int i) (.int i) := by unfold Rep; rfl
theorem repSx {Z : Zx} {F : Hp} {i : Str} : Rep Z F (.str i) (.str i) := by unfold Rep; rfl
theorem isz_ok {i : Int} (h : isz i = true) : -(2 ^ 62) ≤ i ∧ i < 2 ^ 62 := by
  unfold isz at h
  rw [Nat.ble_eq] at h
  omega
theorem jok_r {Z : Zx} {F : Hp} (lo : Int) (n : Nat) : JOk Z F (Itr lo n) (rangeD lo 1 n) := by
  intro F1 H i e1 e2
  refine ⟨fun h => by show n ≤ i; rw [h]; simp [rangeD], fun d hd => ?_⟩
  have hi : i < n := by
    have := (List.getElem?_eq_some_iff.mp hd).1
    simpa [rangeD] using this
  refine ⟨hi, fun x H' ⟨eH, ex⟩ => .inl ⟨?_, eH⟩⟩
  have : d = .int (lo + (i : Int) * 1) := by
    unfold rangeD at hd
    rw [List.getElem?_map, List.getElem?_range hi] at hd
    cases hd
    rfl
  rw [this, ex, Int.mul_one]
  exact repIx
theorem di_range1 {a : Expr} {p : Pos} {f : DE} (hm : X.mg "range" = none) (ha : PA X [a] (tArgs Z W [f])) (hg : Gl X "range" := by rfl) (hs : starEach [a] X.env = [(false, eval a X.env)] := by rfl) : PI X tg (.Call (.Name "range" p) [a] [] pos) (tI Z W (iArgs [f] kRng1)) :=
  (pi_range1 hg hm ha hs).weak fun σ H R h => tArgs_imp (fun xs H1 ⟨A, F, ce, vs, ds, so, r, hk, q⟩ => by
    unfold kRng1 at hk
    split at hk
    · split at hk
      · rename_i j hj
        cases hk
        replace r := vreps1 r
        obtain ⟨x, rfl, r⟩ := r
        rw [rep_int r]
        exact ⟨j, rfl, (isz_ok hj).1, (isz_ok hj).2, q _ (jok_r 0 _)⟩
      · cases hk
    · cases hk) (tIN h)
theorem enum_get {ds : List D} {i : Nat} {d : D} (h : (enumD ds)[i]? = some d) : ∃ e, ds[i]? = some e ∧ d = .tup [.int (i : Int), e] := by
  have e : enumD ds = (List.range ds.length).map fun (i : Nat) => D.tup [.int (i : Int), (ds[i]?).getD .non] := by
    unfold enumD
    have : ∀ l : List Nat, (∀ i ∈ l, i < ds.length) → l.filterMap (fun (i : Nat) => ds[i]?.map fun d => D.tup [.int (i : Int), d]) = l.map fun (i : Nat) => D.tup [.int (i : Int), (ds[i]?).getD .non] := by
      intro l hl
      induction l with
      | nil => rfl
      | cons a l ih =>
        have ha : a < ds.length := hl a (by simp)
        rw [List.map_cons, ← ih fun i hi => hl i (by simp [hi])]
        simp [List.getElem?_eq_getElem ha]
    exact this _ fun i hi => by simpa using hi
  rw [e, List.getElem?_map] at h
  cases q : (List.range ds.length)[i]? with
  | none => rw [q] at h; cases h
  | some j =>
    rw [q] at h
    have hi : i < ds.length := by
      have := (List.getElem?_eq_some_iff.mp q).1
      simpa using this
    rw [List.getElem?_range hi] at q
    cases q
    cases h
    exact ⟨ds[i], List.getElem?_eq_getElem hi, by simp [List.getElem?_eq_getElem hi]⟩
theorem enum_len {ds : List D} : (enumD ds).length = ds.length := by
  unfold enumD
  have : ∀ l : List Nat, (∀ i ∈ l, i < ds.length) → (l.filterMap (fun (i : Nat) => ds[i]?.map fun d => D.tup [.int (i : Int), d])).length = l.length := by
    intro l hl
    induction l with
    | nil => rfl
    | cons a l ih =>
      have ha : a < ds.length := hl a (by simp)
      simp [List.getElem?_eq_getElem ha, ih fun i hi => hl i (by simp [hi])]
  rw [this _ fun i hi => by simpa using hi, List.length_range]
theorem rep_pair {Z : Zx} {F : Hp} {p : Addr} {d e : D} {x y : V} (hp : F p = none) (r1 : Rep Z F d x) (r2 : Rep Z F e y) : Rep Z (upd F p (.tup [x, y])) (.tup [d, e]) (.ref p) := by
  unfold Rep
  exact ⟨p, _, rfl, SqT.of upd_same, reps_cons (r1.mono (same_up hp)) (reps_cons (r2.mono (same_up hp)) reps_nil)⟩
theorem same_none {F H : Hp} (e : Same F H) {p : Addr} (h : H p = none) : F p = none := e.free h
theorem jok_es {Z : Zx} {F : Hp} (z : Str) : JOk Z F (ItEz z) (enumD (signs z)) := by
  intro F1 H i e1 e2
  have hsz : (signs z).length = z.cps.size := by simp [signs]
  refine ⟨fun h => by show i = z.cps.size; rw [h, enum_len, hsz], fun d hd => ?_⟩
  obtain ⟨e, he, rfl⟩ := enum_get hd
  have hi : i < z.cps.size := by rw [← hsz]; exact (List.getElem?_eq_some_iff.mp he).1
  refine ⟨hi, fun x H' ⟨T, c, ex, hT, eH, hc⟩ => .inr ⟨T, _, hT, eH, ?_⟩⟩
  have : e = .str ⟨#[c]⟩ := by
    unfold signs at he
    rw [List.getElem?_map, Array.getElem?_toList, hc] at he
    cases he
    rfl
  rw [this, ex]
  exact rep_pair (same_none e2 hT) repIx repSx
theorem di_enumS {e : Expr} {p tpos : Pos} {elts : List Expr} {kk : Nat} {f : DE} (hm : X.mg "enumerate" = none) (ha : PA X [e] (tArgs Z W [f])) (hg : Gl X "enumerate" := by rfl) (hs : starEach [e] X.env = [(false, eval e X.env)] := by rfl) :
    PI X (.Tuple elts kk tpos) (.Call (.Name "enumerate" p) [e] [] pos) (tI Z W (iArgs [f] kEnumS)) :=
  (pi_enumS hg hm ha hs).weak fun σ H R h => tArgs_imp (fun xs H1 ⟨A, F, ce, vs, ds, so, r, hk, q⟩ => by
    unfold kEnumS at hk
    split at hk
    · cases hk
      replace r := vreps1 r
      obtain ⟨x, rfl, r⟩ := r
      rw [rep_str r]
      exact ⟨_, rfl, q _ (jok_es _)⟩
    · cases hk) (tIN h)
end
end ZZ
set_option Elab.async false
set_option linter.all false
set_option maxRecDepth 100000
namespace ZZ
open PySem PySem.Spec L2
def wipeD (sl : Sl) : List Nat → Sl
  | [] => sl
  | v :: vs => (wipeD sl vs).set v none
def lcD (own : List Nat) (g : GD) (t f : DE) (n : Nat) : List D → Sl → List Cell → EOut
  | [], sl, ce => .ok (.cell n) ce
  | d :: ds, sl, ce => match g d (wipeD sl own) with
    | none => .stuck
    | some sl1 => match t sl1 ce with
      | .ok (.im (.bl b)) ce1 => if b then (match f sl1 ce1 with
        | .ok (.im y) ce2 => match ce2[n]? with
          | some (.lst acc) => if acc.length < LINE then lcD own g t f n ds sl (ce2.set n (.lst (acc ++ [y]))) else .stuck
          | _ => .stuck
        | _ => .stuck) else lcD own g t f n ds sl ce1
      | _ => .stuck
/-- a comprehension's list, as an own list -/
def eLcC (own : List Nat) (fi : DI) (g : GD) (t f : DE) : DE := fun sl ce => match fi sl ce with
  | .ok ds ce' => lcD own g t f ce'.length ds sl (ce' ++ [.lst []])
  | .exc c ds ce' => .exc c ds ce'
  | .stuck => .stuck
/-- an own list that an expression gives, settled -/
def eSettle (f : DE) : DE := fun sl ce => match f sl ce with
  | .ok (.cell n) ce2 => match ce2[n]? with
    | some (.lst ds) => .ok (.im (.lst ds)) ((ce2.set n .dead).take ce.length)
    | some (.dct ks vs) => .ok (.im (.dct ks vs)) ((ce2.set n .dead).take ce.length)
    | _ => .stuck
  | r => r
section
variable {Z : Zy} {A A' : List Addr} {F F' H : Hp} {ce : List Cell} {sl : Sl} {σ : L2.St} {W : WX} {Q Q' : VK}
theorem PtrL.cut {A : List Addr} {n k : Nat} (hk : k < n) : ∀ {ks : List Nat} {bs : List Addr}, PtrL A k ks bs → PtrL (A.take n) k ks bs
  | [], bs, h => h
  | j :: js, bs, ⟨b, t, e, h1, h2, h3⟩ => ⟨b, t, e, h1, by rw [List.getElem?_take_of_lt (by omega)]; exact h2, PtrL.cut hk h3⟩
theorem CellOk.cut {Z : Zx} {a : Addr} {c : Cell} {k n : Nat} (nd : A.Nodup) (hk : A[k]? = some a) (hn : k < n) (h : CellOk Z A F H a c) : CellOk Z (A.take n) F H a c := by
  cases c with
  | dead => exact h
  | lst ds => exact h
  | ins c ds => exact h
  | dct ks vs => exact h
  | rws rows => exact ⟨h.1, h.2.elim fun bs q => ⟨bs, q.1, q.2.mono (Same.refl _) fun b n1 n2 _ => ⟨rfl, n2, fun z => n1 (List.mem_of_mem_take z)⟩⟩⟩
  | ptr ks =>
    obtain ⟨h0, k0, bs, h1, h2, h3⟩ := h
    have e : k0 = k := (List.getElem?_inj (List.getElem?_eq_some_iff.mp h1).1 nd).mp (h1.trans hk.symm)
    subst e
    exact ⟨h0, k0, bs, by rw [List.getElem?_take_of_lt hn]; exact h1, h2, h3.cut hn⟩
theorem SO.take (n : Nat) (so : SO Z.toZx A F ce H) : SO Z.toZx (A.take n) F (ce.take n) H := by
  refine ⟨so.sub, by simp [so.len], ?_, fun k a c h1 h2 => ?_⟩
  · exact List.Nodup.sublist (List.take_sublist _ _) so.nd
  · have hk : k < n := by
      have := (List.getElem?_eq_some_iff.mp h1).1
      simp at this
      omega
    rw [List.getElem?_take_of_lt hk] at h1 h2
    exact (so.ok k a c h1 h2).cut so.nd h1 hk
theorem SL.wipe (hs : SL Z A F sl σ) : ∀ vs : List Nat, SL Z A F (wipeD sl vs) (L2.wipe σ vs)
  | [] => hs
  | v :: vs => (SL.wipe hs vs).gone
theorem wipe_get (σ : L2.St) : ∀ (vs : List Nat) (j : Nat), (L2.wipe σ vs)[j]? = if j ∈ vs then (if j < σ.length then some none else none) else σ[j]?
  | [], j => by simp [L2.wipe]
  | v :: vs, j => by
    unfold L2.wipe
    by_cases hj : v = j
    · subst hj
      by_cases hl : v < σ.length
      · rw [List.getElem?_set_self (by rw [wipe_length]; exact hl)]
        simp [hl]
      · rw [List.getElem?_eq_none (by rw [List.length_set, wipe_length]; omega)]
        simp [hl]
    · rw [List.getElem?_set_ne hj, wipe_get σ vs j]
      have : (j ∈ v :: vs) ↔ j ∈ vs := by
        simp only [List.mem_cons]
        exact ⟨fun h => h.resolve_left fun e => hj e.symm, .inr⟩
      simp only [this]
theorem wipe_agree {ix vs : List Nat} {σ2 : L2.St} (h : Agree ix (L2.wipe σ vs) σ2) (hi : ∀ i ∈ ix, i ∈ vs) : L2.wipe σ2 vs = L2.wipe σ vs := by
  refine List.ext_getElem? fun j => ?_
  have hl : σ2.length = σ.length := by rw [h.1, wipe_length]
  rw [wipe_get, wipe_get, hl]
  by_cases hj : j ∈ vs
  · simp [hj]
  · simp only [hj, if_false]
    have := h.2 j fun z => hj (hi j z)
    rw [this, wipe_get]
    simp [hj]
end
section
variable {X : Cx} {Z : Zy} {elt tg iter : Expr} {ifs : List Expr} {scope : Scope} {own : List (Str × Nat)} {ix : List Nat} {fi : DI} {g : GD} {t f : DE} {pos : Pos} {W : WX}
theorem dts_nil : PTs X [] (tT Z W (eC (.bl true))) := ⟨fun pins s σ H Q I h => pts_nil.run pins s σ H Q I (by
  obtain ⟨A, F, sl, ce, so, hs, p⟩ := h
  obtain ⟨b, e, q⟩ := fin_flat so p repB
  cases e
  exact q)⟩
/-- the reading of a comprehension: a wish on the cell's end -/
theorem lc_read {σ : L2.St} {H : Hp} {Q : VK} {A F sl ce} (hix : ∀ i ∈ ix, i ∈ own.map (·.2)) (so : SO Z.toZx A F ce H) (hs : SL Z A F sl σ)
    (p : match fi sl ce with
      | .ok ds ce' => PostE Z A F W σ Q (lcD (own.map (·.2)) g t f ce'.length ds sl (ce' ++ [.lst []]))
      | .exc c ds ce' => PostE Z A F W σ Q (.exc c ds ce')
      | .stuck => False) : tLc (tI Z W fi) (tG Z ix g) (tT Z WF t) (tE Z WF f) (own.map (·.2)) σ H Q := by
  refine ⟨A, F, sl, ce, so, hs, ?_⟩
  cases e : fi sl ce with
  | stuck => rw [e] at p; exact p.elim
  | exc c ds ce1 => rw [e] at p; exact p
  | ok ds ce1 =>
    rw [e] at p
    intro A1 F1 H1 J p1 e1 so1 hJ D hD
    have hn : A1.length = ce1.length := so1.len
    have so2 : SO Z.toZx (A1 ++ [D]) F1 (ce1 ++ [.lst []]) (upd H1 D (.lst [])) := so1.newCell hD ⟨so1.fnone hD, [], upd_same, reps_nil⟩
    refine ⟨fun i m H => m = ds.length - i ∧ i ≤ ds.length ∧ ∃ A2 F2 ce2, A1 ++ [D] <+: A2 ∧ Same F1 F2 ∧ SO Z.toZx A2 F2 ce2 H ∧ PostE Z A2 F2 W σ Q (lcD (own.map (·.2)) g t f ce1.length (ds.drop i) sl ce2),
      ⟨ds.length, rfl, Nat.zero_le _, A1 ++ [D], F1, _, List.prefix_refl _, Same.refl _, so2, p.mono (p1.trans (List.prefix_append _ _)) e1⟩, ?_⟩
    rintro i m H ⟨rfl, hi, A2, F2, ce2, pA, eF, so, q⟩
    have hA2 : A2[ce1.length]? = some D := by
      refine pre_get pA ?_
      rw [← hn]
      simp
    obtain ⟨j1, j2⟩ := hJ F2 H i eF so.sub
    by_cases hlt : i < ds.length
    · have hd : ds[i]? = some ds[i] := List.getElem?_eq_getElem hlt
      obtain ⟨go, yl⟩ := j2 _ hd
      refine .inr ⟨go, fun H => i + 1 ≤ ds.length ∧ ∃ A2 F2 ce2, A1 ++ [D] <+: A2 ∧ Same F1 F2 ∧ SO Z.toZx A2 F2 ce2 H ∧ PostE Z A2 F2 W σ Q (lcD (own.map (·.2)) g t f ce1.length (ds.drop (i + 1)) sl ce2), fun H' q => ⟨ds.length - (i + 1), by omega, rfl, q⟩, fun x H' hy => ?_⟩
      rw [List.drop_eq_getElem_cons hlt] at q
      have hsW := (hs.mono (p1.trans ((List.prefix_append _ _).trans pA)) (e1.trans eF)).wipe (own.map (·.2))
      have fin : ∀ F3 H3, Same F2 F3 → SO Z.toZx A2 F3 ce2 H3 → Rep Z.toZx F3 ds[i] x → tG Z ix g x (L2.wipe σ (own.map (·.2))) H3 fun σ2 H2 => L2.wipe σ2 (own.map (·.2)) = L2.wipe σ (own.map (·.2)) ∧ tT Z WF t σ2 H2 fun b H3 =>
          if b = true then tE Z WF f σ2 H3 fun y H4 => ∃ acc, H4 D = some (.lst acc) ∧ acc.length < sizeLine ∧ (fun H => i + 1 ≤ ds.length ∧ ∃ A2 F2 ce2, A1 ++ [D] <+: A2 ∧ Same F1 F2 ∧ SO Z.toZx A2 F2 ce2 H ∧ PostE Z A2 F2 W σ Q (lcD (own.map (·.2)) g t f ce1.length (ds.drop (i + 1)) sl ce2)) (upd H4 D (.lst (acc ++ [y])))
          else (fun H => i + 1 ≤ ds.length ∧ ∃ A2 F2 ce2, A1 ++ [D] <+: A2 ∧ Same F1 F2 ∧ SO Z.toZx A2 F2 ce2 H ∧ PostE Z A2 F2 W σ Q (lcD (own.map (·.2)) g t f ce1.length (ds.drop (i + 1)) sl ce2)) H3 := by
        intro F3 H3 e3 so3 r3
        refine ⟨A2, F3, wipeD sl (own.map (·.2)), ce2, ds[i], so3, hsW.mono (List.prefix_refl _) e3, r3, ?_⟩
        unfold lcD at q
        cases eg : g ds[i] (wipeD sl (own.map (·.2))) with
        | none => rw [eg] at q; exact q.elim
        | some sl1 =>
          simp only [eg] at q
          refine ⟨sl1, rfl, fun σ2 hs2 ag => ⟨wipe_agree ag hix, A2, F3, sl1, ce2, so3, hs2, ?_⟩⟩
          cases et : t sl1 ce2 with
          | stuck => rw [et] at q; exact q.elim
          | exc c ds ce3 => rw [et] at q; exact q.elim
          | ok vt ce3 =>
            rw [et] at q
            intro A4 F4 H4 xb p4 e4 so4 rb
            cases vt with
            | cell n => exact q.elim
            | exn c ds => exact q.elim
            | im d => cases d with
              | bl b =>
                refine ⟨b, rep_bl rb, ?_⟩
                cases b with
                | false =>
                  refine iteF ⟨hlt, A4, F4, ce3, pA.trans p4, (eF.trans e3).trans e4, so4, ?_⟩
                  exact PostE.mono p4 (e3.trans e4) (by simpa using q)
                | true =>
                  simp only [if_true] at q
                  refine iteT ⟨A4, F4, sl1, ce3, so4, hs2.mono p4 e4, ?_⟩
                  cases ef : f sl1 ce3 with
                  | stuck => rw [ef] at q; exact q.elim
                  | exc c ds ce5 => rw [ef] at q; exact q.elim
                  | ok vy ce5 =>
                    rw [ef] at q
                    intro A5 F5 H5 xy p5 e5 so5 ry
                    cases vy with
                    | cell n => exact q.elim
                    | exn c ds => exact q.elim
                    | im y =>
                      dsimp only at q
                      split at q
                      · rename_i acc hacc
                        split at q
                        · rename_i hline
                          have hA5 : A5[ce1.length]? = some D := pre_get p5 (pre_get p4 hA2)
                          obtain ⟨hF5, vs, hH5, r5⟩ := so5.ok _ _ _ hA5 hacc
                          refine ⟨vs, hH5, by rw [sizeLine_eq, ← r5.length]; exact hline, hlt, A5, F5, _, (pA.trans p4).trans p5, ((eF.trans e3).trans e4).trans e5, so5.write (c := .lst (acc ++ [y])) hA5 hF5 ⟨hF5, _, upd_same, r5.append (reps_cons ry reps_nil)⟩, ?_⟩
                          exact PostE.mono (p4.trans p5) ((e3.trans e4).trans e5) q
                        · exact q.elim
                      · exact q.elim
              | _ => exact q.elim
      rcases yl x H' hy with ⟨rx, rfl⟩ | ⟨q', o, hq', rfl, rx⟩
      · exact fin F2 _ (Same.refl _) so rx
      · exact fin _ _ (same_up (so.fnone hq')) (so.new hq') rx
    · have ei : i = ds.length := by omega
      refine .inl ⟨j1 ei, ?_⟩
      rw [ei, List.drop_length] at q
      exact q A2 F2 H (.ref D) (List.prefix_refl _) (Same.refl _) so ⟨D, hA2, rfl⟩
theorem lc_of (hix : ∀ i ∈ ix, i ∈ own.map (·.2)) {σ : L2.St} {H : Hp} {Q : VK} (h : tE Z W (eLcC (own.map (·.2)) fi g t f) σ H Q) : tLc (tI Z W fi) (tG Z ix g) (tT Z WF t) (tE Z WF f) (own.map (·.2)) σ H Q := by
  obtain ⟨A, F, sl, ce, so, hs', p⟩ := h
  refine lc_read hix so hs' ?_
  unfold eLcC at p
  cases e : fi sl ce with
  | stuck => rw [e] at p; exact p
  | exc c ds ce1 => rw [e] at p; exact p
  | ok ds ce1 => rw [e] at p; exact p
theorem de_lcC (hc : X.calm = true) (hN : X.N.Nodup) (ok : BlkOk X.N X.env.scope scope own) (hix : ∀ i ∈ ix, i ∈ own.map (·.2)) (hi : PI X tg iter (tI Z W fi))
    (hg : ∀ (s : Shared) (H : Hp) (C : Addr) (cl : List (Str × Addr)) (fp : List Addr), PG (X.blk s H scope (compEnvC scope cl C X.env) fp) tg (tG Z ix g)) (ht : ∀ (s : Shared) (H : Hp) (C : Addr) (cl : List (Str × Addr)) (fp : List Addr), PTs (X.blk s H scope (compEnvC scope cl C X.env) fp) ifs (tT Z WF t))
    (he : ∀ (s : Shared) (H : Hp) (C : Addr) (cl : List (Str × Addr)) (fp : List Addr), PE (X.blk s H scope (compEnvC scope cl C X.env) fp) elt (tE Z WF f)) (hs : ∀ x, foldedSetIterable iter X.env x = pure x := by intro _; rfl) :
    PE X (.ListComp elt [⟨tg, iter, ifs, 0⟩] scope pos) (tE Z W (eLcC (own.map (·.2)) fi g t f)) :=
  (pe_lc hc hN hi ok hg ht he hs).weak fun σ H Q h => lc_of hix h
theorem tE_settle {f : DE} {σ : L2.St} {H : Hp} {Q : VK} (h : tE Z W (eSettle f) σ H Q) : tE Z W f σ H Q := by
  obtain ⟨A, F, sl, ce, so, hs, p⟩ := h
  refine ⟨A, F, sl, ce, so, hs, ?_⟩
  unfold eSettle at p
  cases e : f sl ce with
  | stuck => rw [e] at p; exact p
  | exc c ds ce1 => rw [e] at p; exact p
  | ok v ce2 =>
    rw [e] at p
    cases v with
    | im d => exact p
    | exn c ds => exact p
    | cell n =>
      intro A' F' H' x pA eF so2 rx
      obtain ⟨a, ha, rfl⟩ := rx
      dsimp only at p
      split at p
      · rename_i acc hacc
        obtain ⟨hF, vs, hH, rr⟩ := so2.ok _ _ _ ha hacc
        have up := same_up (o := .lst vs) hF
        refine p (A'.take ce.length) (upd F' a (.lst vs)) H' (.ref a) ?_ (eF.trans up) ((so2.freeze ha hF hH).take _) ?_
        · obtain ⟨t, rfl⟩ := pA
          rw [← so.len, List.take_left]
          exact List.prefix_refl _
        · unfold VRep Rep
          exact ⟨a, vs, rfl, upd_same, rr.mono up⟩
      · rename_i ks vs hacc
        obtain ⟨hF, o, kvs, vvs, hH, sh, r1, r2⟩ := so2.ok _ _ _ ha hacc
        have up := same_up (o := o) hF
        refine p (A'.take ce.length) (upd F' a o) H' (.ref a) ?_ (eF.trans up) ((so2.freeze ha hF hH).take _) ?_
        · obtain ⟨t, rfl⟩ := pA
          rw [← so.len, List.take_left]
          exact List.prefix_refl _
        · unfold VRep Rep
          exact ⟨a, o, kvs, vvs, rfl, upd_same, sh, r1.mono up, r2.mono up⟩
      · exact p.elim
theorem de_settle {e : Expr} {f : DE} (h : PE X e (tE Z W f)) : PE X e (tE Z W (eSettle f)) := h.weak fun σ H Q q => tE_settle q
end
end ZZ
set_option Elab.async false
set_option linter.all false
set_option maxRecDepth 100000
namespace L2
open PySem PySem.Spec
section
variable {X : Cx} {CX : CXT} {k : Nat} {f C : Addr} {fd : FuncData} {ps : List Str} {sp : Sp} {dvs : List V} {ds : List Value} {E : L2.St → XK} {x m : Str} {p pos apos : Pos} {e o : Expr} {es : List Expr} {ta : TE} {t : TA}
def tMakeZS (C : Addr) (sp : Sp) (dvs : List V) (E : L2.St → XK) (t : TA) : TE := fun σ H Q => t σ H fun vs H1 => ∀ x dx, H1 x = none → H1 dx = none → dx ≠ x →
  sp (.ref x :: (vs ++ dvs)) (upd (upd H1 dx (.own x)) x (.ins C dx [])) (fun v H2 => v = .non ∧ Q (.ref x) H2) (E σ)
theorem run_makeZS {pins : List (Addr × Obj)} {σ : L2.St} {H : Hp} {s : Shared} {Q : VK} {us : List Value} {vs : List V} (M : Mk X.K C f) (F : FnOk X.prog X.w X.K X.mg X.base CX k f fd ps sp) (hr : Room (k + 1) X.A) (hb : Binds X.K fd ps ds) (hd : Vals dvs ds)
    (hx : PassesAt CX X σ (E σ)) (I : Inv X pins σ H s) (r : Vals vs us)
    (h : ∀ x dx, H x = none → H dx = none → dx ≠ x → sp (.ref x :: (vs ++ dvs)) (upd (upd H dx (.own x)) x (.ins C dx [])) (fun v H2 => v = .non ∧ Q (.ref x) H2) (E σ)) :
    wpAny (model X.prog X.w) X.A (call (.ref C) us) (EP X pins σ Q) X.xe s := by
  have hq := h (s.heap.objs.size + 1) s.heap.objs.size (I.hok.fresh (Nat.le_succ _)) (I.hok.fresh (Nat.le_refl _)) (Nat.ne_of_lt (Nat.lt_succ_self _))
  have I2 := Inv.made (C := C) I
  have r2 : Vals (V.ref (s.heap.objs.size + 1) :: (vs ++ dvs)) (Value.ref (s.heap.objs.size + 1) :: (us ++ ds)) := .cons rfl (r.append hd)
  have hl : (Value.ref (s.heap.objs.size + 1) :: us ++ ds).length = ps.length := by
    have e := r2.length
    rw [F.len _ _ _ _ hq] at e
    exact e.symm
  refine wpAny_call (make_map (f := f) I.kIn M.makes M.init (beq_iff_eq.mp M.fn) (codeAny_mono (F.run _ X.stack _ _ ⟨Value.ref (s.heap.objs.size + 1) :: us, []⟩ (Value.ref (s.heap.objs.size + 1) :: (us ++ ds)) _ _ (E σ) (hr.make C us [])
    (I2.env0.make C us []) (hb _ (Value.ref (s.heap.objs.size + 1) :: us) I2.kIn hl) r2 hq) fun r s' hq' => ?_))
  cases r with
  | error e => exact hx pins _ _ e s' I2 hq'
  | ok fl =>
    cases fl with
    | ret u =>
      obtain ⟨v, H', I3, rv, ev, q3⟩ := I2.after hq'
      subst ev
      exact ⟨rv, ⟨V.ref (s.heap.objs.size + 1), H', I3, rfl, q3⟩⟩
    | next => exact False.elim hq'
    | brk => exact False.elim hq'
    | cont => exact False.elim hq'
theorem pe_makeZS (M : Mk X.K C f) (F : FnOk X.prog X.w X.K X.mg X.base CX k f fd ps sp) (hr : Room (k + 1) X.A) (hg : Gl X x) (hm : X.mg x = some (.ref C)) (hb : Binds X.K fd ps ds) (hd : Vals dvs ds) (hx : ∀ σ, PassesAt CX X σ (E σ))
    (ha : PA X (e :: es) t) (hdb : (x == ("__debug__" : Str)) = false := by decide) (he : starEach (e :: es) X.env = (false, eval e X.env) :: starEach es X.env := by rfl) (hpl : (backTo pos (starEach es X.env)).any (·.1) = false := by rfl) :
    PE X (.Call (.Name x p) (e :: es) [] pos) (tMakeZS C sp dvs E t) := by
  refine ⟨fun pins s σ H Q I h => ?_⟩
  refine wpAny_Call_Name_kw (ld_glob I hg hm ?_ hdb)
  refine PySem.W.callWith_K (h₀ := X.base) I.ok.mod.kin M.kp (thn (ha.run pos pins s σ H _ I h) fun us s1 ⟨vs, H1, I1, r, q⟩ => ⟨I1.kIn, ?_⟩) he hpl
  exact run_makeZS M F hr hb hd (hx σ) I1 r q
end
end L2
namespace ZZ
open PySem PySem.Spec L2
abbrev Zx.z (Z : Zx) : Zy := ⟨Z, none⟩
abbrev DF : Type := List Val → List Cell → EOut
/-- a def's promise: it computes fh -/
def spD (Z : Zx) (fh : DF) (n : Nat) : Sp := fun vs H Q E => ∃ A F ce ds, SO Z A F ce H ∧ VReps Z.z A F ds vs ∧ ds.length = n ∧ PostE Z.z A F (fun c d _ H => E c d H) [] Q (fh ds ce)
/-- a def's value: its body run, the store cut -/
def finD (n : Nat) (v : Val) (ce : List Cell) : EOut := match v with
  | .im d => .ok (.im d) (ce.take n)
  | .cell k => if k < n then .ok (.cell k) (ce.take n) else (match ce[k]? with
    | some (.ptr _) => .stuck
    | some (.rws _) => .stuck
    | some c => .ok (.cell n) (ce.take n ++ [c])
    | none => .stuck)
  | .exn _ _ => .stuck
def mkD (nsl : Nat) (body : DSt) : DF := fun ds ce => match body (ds.map some ++ List.replicate (nsl - ds.length) none) ce with
  | .nx _ ce' => finD ce.length (.im .non) ce'
  | .rt v ce' => finD ce.length v ce'
  | .exc c es _ ce' => .exc c es (ce'.take ce.length)
  | _ => .stuck
section
variable {Z : Zx} {A A' : List Addr} {F F' H : Hp} {ce : List Cell} {sl : Sl} {σ : L2.St} {W : WX} {Q Q' : VK}
theorem SO.cut {n : Nat} (so : SO Z A' F ce H) (p : A <+: A') (hn : A.length = n) : SO Z A F (ce.take n) H := by
  have := SO.take (Z := Z.z) n so
  obtain ⟨t, rfl⟩ := p
  rw [← hn, List.take_left] at this
  rw [← hn]
  exact this
theorem vrep_z {Y : Zy} (hy : Y.toZx = Z) {v : Val} {x : V} (h1 : VRep Z.z A F v x) : VRep Y A F v x := by
  subst hy
  cases v with
  | im d => exact h1
  | cell k => exact h1
  | exn c ds => exact h1.elim (fun ⟨_, a, dx, h, _⟩ => by cases h) .inr
/-- values that a callee may take -/
def plainV : Val → Bool
  | .exn c _ => decide (1000 ≤ c)
  | _ => true
theorem VReps.nohd {Y : Zy} : ∀ {vs : List Val} {xs : List V}, vs.all plainV = true → VReps Y A F vs xs → VReps (Zx.z Y.toZx) A F vs xs
  | [], _, _, h => h
  | v :: vs, _, hp, ⟨x, r, e, h1, h2⟩ => by
    simp only [List.all_cons, Bool.and_eq_true] at hp
    refine ⟨x, r, e, ?_, VReps.nohd hp.2 h2⟩
    cases v with
    | im d => exact h1
    | cell k => exact h1
    | exn c ds => exact h1.elim (fun h => absurd (of_decide_eq_true hp.1) (by omega)) .inr
theorem vreps_start {N : List Str} {ds : List Val} {vs : List V} (h : VReps Z.z A F ds vs) : SL Z.z A F (ds.map some ++ List.replicate (N.length - ds.length) none) (L2.start N vs) := by
  have hl := h.length
  unfold L2.start
  rw [hl]
  refine ⟨by simp [hl], ?_⟩
  have key : ∀ {ds : List Val} {vs : List V} (m : Nat), VReps Z.z A F ds vs → ∀ (i : Nat) (v : Val), (ds.map some ++ List.replicate m none)[i]? = some (some v) → ∃ x, (vs.map some ++ List.replicate m none)[i]? = some (some x) ∧ VRep Z.z A F v x := by
    intro ds
    induction ds with
    | nil =>
      intro vs m h i v e
      unfold VReps at h
      subst h
      simp [List.getElem?_replicate] at e
    | cons d ds ih =>
      intro vs m h i v e
      obtain ⟨x, r, rfl, h1, h2⟩ := h
      cases i with
      | zero =>
        simp at e
        subst e
        exact ⟨x, by simp, h1⟩
      | succ i =>
        obtain ⟨y, e2, r2⟩ := ih m h2 i v (by simpa using e)
        exact ⟨y, by simpa using e2, r2⟩
  exact key _ h
theorem fin_ok {n : Nat} {v : Val} {ce' : List Cell} {H' : Hp} {x : V} (hn : A.length = n) (p : A <+: A') (e : Same F F') (so : SO Z A' F' ce' H') (r : VRep Z.z A' F' v x) (q : PostE Z.z A F W σ Q (finD n v ce')) : Q x H' := by
  cases v with
  | im d => exact q A F' H' x (List.prefix_refl _) e (so.cut p hn) r
  | exn c ds => exact q.elim
  | cell k =>
    unfold finD at q
    obtain ⟨a, ha, rfl⟩ := r
    dsimp only at q
    by_cases hk : k < n
    · rw [if_pos hk] at q
      refine q A F' H' _ (List.prefix_refl _) e (so.cut p hn) ⟨a, ?_, rfl⟩
      obtain ⟨t, rfl⟩ := p
      rw [List.getElem?_append_left (by omega)] at ha
      exact ha
    · rw [if_neg hk] at q
      have hlen : k < ce'.length := by rw [← so.len]; exact (List.getElem?_eq_some_iff.mp ha).1
      rw [List.getElem?_eq_getElem hlen] at q
      have s2 := so.cut p hn
      have hc2 := so.ok k a _ ha (List.getElem?_eq_getElem hlen)
      have hnp : ∀ ks, ce'[k] ≠ .ptr ks := fun ks e => by
        rw [e] at q
        exact q.elim
      have hnr : ∀ rs, ce'[k] ≠ .rws rs := fun rs e => by
        rw [e] at q
        exact q.elim
      have q2 : PostE Z.z A F W σ Q (.ok (.cell n) (ce'.take n ++ [ce'[k]])) := by
        cases hc : ce'[k] with
        | ptr ks => exact absurd hc (hnp ks)
        | rws rs => exact absurd hc (hnr rs)
        | dead => rw [hc] at q; exact q
        | lst ds => rw [hc] at q; exact q
        | ins c ds => rw [hc] at q; exact q
        | dct ks vs => rw [hc] at q; exact q
      refine q2 (A ++ [a]) F' H' _ (List.prefix_append _ _) e ⟨s2.sub, by simp [s2.len], ?_, fun j b c h1 h2 => ?_⟩ ⟨a, by simp [← hn], rfl⟩
      · refine List.nodup_append.mpr ⟨s2.nd, by simp, fun b hb c hc ebc => ?_⟩
        simp at hc
        subst hc
        subst ebc
        obtain ⟨t, rfl⟩ := p
        obtain ⟨j, hj⟩ := List.getElem?_of_mem hb
        have hjl := (List.getElem?_eq_some_iff.mp hj).1
        have hj' : (A ++ t)[j]? = some b := by rw [List.getElem?_append_left hjl]; exact hj
        have := (List.getElem?_inj (List.getElem?_eq_some_iff.mp hj').1 so.nd).mp (hj'.trans ha.symm)
        omega
      · by_cases hj : j < A.length
        · rw [List.getElem?_append_left hj] at h1
          rw [List.getElem?_append_left (by rw [← s2.len]; exact hj)] at h2
          have h1' := pre_get p h1
          have h2' : ce'[j]? = some c := by rw [← h2, List.getElem?_take_of_lt (by omega)]
          by_cases hr : ∃ rs, c = .rws rs
          · obtain ⟨rs, rfl⟩ := hr
            obtain ⟨q1, bs, q3, q4⟩ := so.ok j b _ h1' h2'
            refine ⟨q1, bs, q3, q4.mono (Same.refl _) fun z n1 n2 _ => ⟨rfl, n2, fun y => n1 ?_⟩⟩
            rcases List.mem_append.mp y with y | y
            · exact p.subset y
            · rw [List.mem_singleton.mp y]; exact List.mem_of_getElem? ha
          · cases c with
            | rws rs => exact absurd ⟨rs, rfl⟩ hr
            | dead => exact s2.ok j b _ h1 h2
            | lst ds => exact s2.ok j b _ h1 h2
            | ins x ds => exact s2.ok j b _ h1 h2
            | dct ks vs => exact s2.ok j b _ h1 h2
            | ptr ks =>
              obtain ⟨q1, k0, bs, q2, q3, q4⟩ := s2.ok j b _ h1 h2
              exact ⟨q1, k0, bs, pre_get (List.prefix_append _ _) q2, q3, q4.mono (List.prefix_append _ _)⟩
        · rw [List.getElem?_append_right (by omega)] at h1
          rw [List.getElem?_append_right (by rw [← s2.len]; omega), ← s2.len] at h2
          have hj0 : j - A.length = 0 := by
            have := (List.getElem?_eq_some_iff.mp h1).1
            simp at this
            omega
          rw [hj0] at h1 h2
          simp at h1 h2
          subst h1 h2
          cases hc : ce'[k] with
          | ptr ks => exact absurd hc (hnp ks)
          | rws rs => exact absurd hc (hnr rs)
          | dead => rw [hc] at hc2; exact hc2
          | lst ds => rw [hc] at hc2; exact hc2
          | ins c ds => rw [hc] at hc2; exact hc2
          | dct ks vs => rw [hc] at hc2; exact hc2
end
section
variable {P : Program} {w : World} {K : PySem.W.Frag} {mg : Str → Option Value} {base : Heap}
/-- a def keeps its promise: its body's rule -/
theorem fnD {Z : Zx} {x qual : Str} {st : Stmt} {f : Addr} {fd : FuncData} {N ps : List Str} {k nsl n : Nat} {body : DSt} (Fn : Fun K x qual st f fd) (S : FnScope N ps (defScope st)) (hN : N.length = nsl) (hn : ps.length = n)
    (hbody : ∀ (cdv : Value) (A : Around) (outer : List Env) (s : Shared) (H : Hp) (E : XK), Room k (A.deeper (PyProof.Rows.envOfC qual (defScope st) s.heap.objs.size f cdv)) →
      PSs (cxOf (L2N.CX P w) P w K mg base N qual (defScope st) f cdv A outer s H E) (defBody st) (tS Z.z (fun cls d _ H => E cls d H) body)) : FnOk P w K mg base (L2N.CX P w) (k + 1) f fd ps (spD Z (mkD nsl body) n) := by
  subst hN hn
  obtain ⟨oc, od, kV, doc, pm, an, cdv, ct, osl, rfl, lk, hcd⟩ := Fn.ex
  refine fn_of lk hcd S (fun vs H Q E ⟨A, F, ce, ds, so, r, l, p⟩ => by rw [← r.length]; exact l) fun A outer s H vs Q E hr ⟨A0, F0, ce, ds, so, r, l, p⟩ => ⟨_, hbody cdv A outer s H E hr, A0, F0, _, ce, so, vreps_start r, ?_⟩
  unfold mkD at p
  have hn := so.len
  cases e : body (ds.map some ++ List.replicate (N.length - ds.length) none) ce with
  | nx sl ce' => rw [e] at p; exact fun A' F' H' σ' pA eF so' hs' => fin_ok hn pA eF so' (show VRep Z.z A' F' (.im .non) .non by unfold VRep Rep; rfl) p
  | rt v ce' => rw [e] at p; exact fun A' F' H' x pA eF so' r' => fin_ok hn pA eF so' r' p
  | exc c es sl ce' => rw [e] at p; exact fun A' F' H' σ' dx pA eF so' hs' xo => p A0 F' H' dx (List.prefix_refl _) eF (so'.cut pA hn) xo
  | bk sl ce' => rw [e] at p; exact p.elim
  | ct sl ce' => rw [e] at p; exact p.elim
  | stuck => rw [e] at p; exact p.elim
end
def kCall (fh : DF) (vs : List Val) : DE := fun _ ce => if vs.all plainV then fh vs ce else .stuck
/-- o.m(..): o is an instance of the class c -/
def isC (c : Nat) (ce : List Cell) : Val → Bool
  | .im (.ins d _) => d == c
  | .cell k => match ce[k]? with
    | some (.ins d _) => d == c
    | _ => false
  | _ => false
/-- C(..), settled -/
def kMake (c nf : Nat) (fh : DF) (vs : List Val) : DE := fun _ ce => if vs.all plainV then (match fh (.cell ce.length :: vs) (ce ++ [.ins c []]) with
  | .ok (.im .non) ce' => match ce'[ce.length]? with
    | some (.ins d ds) => if d = c ∧ ds.length = nf then .ok (.im (.ins c ds)) (ce'.take ce.length) else .stuck
    | _ => .stuck
  | .exc d ds ce' => .exc d ds (ce'.take ce.length)
  | _ => .stuck) else .stuck
section
variable {X : Cx} {Z : Zy} {W : WX} {k : Nat} {fa C : Addr} {fd : FuncData} {ps : List Str} {fh : DF} {x m : Str} {p pos apos : Pos} {e o : Expr} {es : List Expr} {f : DE} {fs : List DE} {n : Nat}
theorem spD_call {A : List Addr} {F : Hp} {sl : Sl} {ce : List Cell} {σ : L2.St} {Q : VK} {vs : List Val} {xs : List V} {H : Hp} (so : SO Z.toZx A F ce H) (r : VReps Z A F vs xs) (hl : vs.length = n) (pl : vs.all plainV = true) (q : PostE Z A F W σ Q (fh vs ce)) : spD Z.toZx fh n xs H Q (WE W σ) := by
  refine ⟨A, F, ce, vs, so, r.nohd pl, hl, ?_⟩
  cases e : fh vs ce with
  | ok v ce' => rw [e] at q; exact fun A' F' H' x pA eF so' r' => q A' F' H' x pA eF so' (vrep_z rfl r')
  | exc c ds ce' => rw [e] at q; exact q
  | stuck => rw [e] at q; exact q
theorem de_call (F : FnOk X.prog X.w X.K X.mg X.base (L2N.CX X.prog X.w) k fa fd ps (spD Z.toZx fh n)) (hr : Room k X.A) (hm : X.mg x = some (.ref fa)) (hk : PySem.W.keepIn X.K (.ref fa) = true) (hb : Binds X.K fd ps []) (tw : TW X W) (ha : PA X (e :: es) (tArgs Z W fs))
    (hg : Gl X x := by rfl) (hl : fs.length = n := by rfl) (hdb : (x == ("__debug__" : Str)) = false := by decide) (he : starEach (e :: es) X.env = (false, eval e X.env) :: starEach es X.env := by rfl) (hpl : (backTo pos (starEach es X.env)).any (·.1) = false := by rfl) :
    PE X (.Call (.Name x p) (e :: es) [] pos) (tE Z W (eArgs fs (kCall fh))) :=
  (pe_callS F hr hg hm hk hb tw ha hdb he hpl).weak fun σ H Q h => tArgs_imp (fun xs H1 ⟨A, F, sl, ce, vs, so, hs, r, l, q⟩ => by
    unfold kCall at q
    by_cases hp : vs.all plainV = true
    · rw [if_pos hp] at q
      exact spD_call (sl := sl) so r (by rw [l, hl]) hp q
    · rw [if_neg hp] at q
      exact q.elim) (tN h)
/-- a class's plain facts -/
structure ClsOk (K : PySem.W.Frag) (Z : Zx) (c : Nat) : Prop where
  cls : Cls K (Z.cl c)
  nd : (Z.fl c).Nodup
theorem take_lookup {m : Str} {fs : List (Str × V)} {l : List Str} {n : Nat} (e : fs.map (·.1) = l.take n) (h : m ∉ l) : fs.lookup m = none := by
  have : m ∉ fs.map (·.1) := by rw [e]; exact fun z => h (List.mem_of_mem_take z)
  rw [List.lookup_eq_none_iff]
  intro p hp
  refine bne_iff_ne.mpr fun z => this ?_
  rw [z]
  exact List.mem_map_of_mem hp
theorem isC_rd {A F ce H c v y} (so : SO Z.toZx A F ce H) (r : VRep Z A F v y) (h : isC c ce v = true) : ∃ a dx fs n, y = .ref a ∧ H a = some (.ins (Z.cl c) dx fs) ∧ fs.map (·.1) = (Z.fl c).take n := by
  unfold isC at h
  split at h
  · rename_i d ds
    unfold VRep Rep at r
    obtain ⟨a, dx, fs, rfl, h1, h2, h3⟩ := r
    have := beq_iff_eq.mp h
    subst this
    exact ⟨a, dx, fs, (Z.fl d).length, rfl, so.sub _ _ h1, by rw [h2, List.take_length]⟩
  · split at h
    · rename_i k d ds hk
      have := beq_iff_eq.mp h
      subst this
      obtain ⟨a, ha, rfl⟩ := r
      obtain ⟨_, dx, fs, h1, h2, h3⟩ := so.ok _ _ _ ha hk
      exact ⟨a, dx, fs, _, rfl, h1, h2⟩
    · cases h
  · cases h
theorem isC_plain {ce c v} (h : isC c ce v = true) : plainV v = true := by
  unfold isC at h
  split at h <;> first | rfl | cases h
theorem de_make {c nf : Nat} (M : Mk X.K (Z.cl c) fa) (F : FnOk X.prog X.w X.K X.mg X.base (L2N.CX X.prog X.w) k fa fd ps (spD Z.toZx fh (n + 1))) (hr : Room (k + 1) X.A) (hm : X.mg x = some (.ref (Z.cl c))) (hb : Binds X.K fd ps []) (tw : TW X W) (ha : PA X (e :: es) (tArgs Z W fs)) (hfl : (Z.fl c).length = nf)
    (hg : Gl X x := by rfl) (hl : fs.length = n := by rfl) (hdb : (x == ("__debug__" : Str)) = false := by decide) (he : starEach (e :: es) X.env = (false, eval e X.env) :: starEach es X.env := by rfl) (hpl : (backTo pos (starEach es X.env)).any (·.1) = false := by rfl) :
    PE X (.Call (.Name x p) (e :: es) [] pos) (tE Z W (eArgs fs (kMake c nf fh))) :=
  (pe_makeZS M F hr hg hm hb .nil tw ha hdb he hpl).weak fun σ H Q h => tArgs_imp (fun xs H1 ⟨A, F, sl, ce, vs, so, hs, r, l, q⟩ => by
    intro a dx ha' hdx hne
    rw [List.append_nil]
    unfold kMake at q
    by_cases hp : vs.all plainV = true
    · rw [if_pos hp] at q
      -- the new instance's dict, then the instance as a cell
      have so1 := so.new (o := .own a) hdx
      have fa1 : (upd F dx (.own a)) a = none := by rw [upd_ne (Ne.symm hne)]; exact so.fnone ha'
      have ha1 : (upd H1 dx (.own a)) a = none := by rw [upd_ne (Ne.symm hne)]; exact ha'
      have so2 := so1.newCell (o := .ins (Z.cl c) dx []) (c := .ins c []) ha1 ⟨so1.fnone ha1, dx, [], upd_same, rfl, reps_nil⟩
      have up1 : Same F (upd F dx (.own a)) := same_up (so.fnone hdx)
      refine ⟨A ++ [a], upd F dx (.own a), ce ++ [.ins c []], .cell ce.length :: vs, so2, ⟨.ref a, xs, rfl, ⟨a, by rw [← so.len]; simp, rfl⟩, (r.mono (List.prefix_append _ _) up1).nohd hp⟩, by simp [l, hl], ?_⟩
      cases e : fh (.cell ce.length :: vs) (ce ++ [.ins c []]) with
      | stuck => rw [e] at q; exact q.elim
      | exc d ds ce' =>
        rw [e] at q
        exact fun A' F' H' dx' pA eF so' xo => q A F' H' dx' (List.prefix_refl _) (up1.trans eF) (so'.cut ((List.prefix_append _ _).trans pA) so.len) xo
      | ok v ce' =>
        rw [e] at q
        cases v with
        | cell n => exact q.elim
        | exn c ds => exact q.elim
        | im d => cases d with
          | non =>
            intro A' F' H' y pA eF so' ry
            refine ⟨rep_non (Z := Z.toZx.z) ry, ?_⟩
            have hAa : A'[ce.length]? = some a := pre_get pA (by rw [← so.len]; simp)
            dsimp only at q
            split at q
            · rename_i d ds hds
              by_cases hdc : d = c ∧ ds.length = nf
              · rw [if_pos hdc] at q
                obtain ⟨rfl, hll⟩ := hdc
                obtain ⟨hF, dx', fs', hH, hfs, rr⟩ := so'.ok _ _ _ hAa hds
                have up := same_up (o := .ins (Z.cl d) dx' fs') hF
                have s2 := (so'.freeze hAa hF hH).cut (A := A) ((List.prefix_append _ _).trans pA) so.len
                have e3 : (ce'.set ce.length .dead).take ce.length = ce'.take ce.length := by
                  refine List.ext_getElem? fun j => ?_
                  by_cases hj : j < ce.length
                  · rw [List.getElem?_take_of_lt hj, List.getElem?_take_of_lt hj, List.getElem?_set_ne (by omega)]
                  · rw [List.getElem?_eq_none (by simp; omega), List.getElem?_eq_none (by simp; omega)]
                rw [e3] at s2
                refine q A _ H' (.ref a) (List.prefix_refl _) ((up1.trans eF).trans up) s2 ?_
                unfold VRep Rep
                exact ⟨a, dx', fs', rfl, upd_same, by rw [hfs, hll, ← hfl, List.take_length], rr.mono up⟩
              · rw [if_neg hdc] at q
                exact q.elim
            · exact q.elim
          | _ => exact q.elim
    · rw [if_neg hp] at q
      exact q.elim) (tN h)
end
end ZZ
set_option Elab.async false
set_option linter.all false
set_option maxRecDepth 100000
namespace ZZ
open PySem PySem.Spec L2
/-- the i-th field of an instance of the class c -/
def kFld (c i : Nat) (v : Val) : DE := fun _ ce => match v with
  | .im (.ins d ds) => if d = c then (match ds[i]? with
    | some x => .ok (.im x) ce
    | none => .stuck) else .stuck
  | .cell k => match ce[k]? with
    | some (.ins d ds) => if d = c then (match ds[i]? with
      | some x => .ok (.im x) ce
      | none => .stuck) else .stuck
    | _ => .stuck
  | _ => .stuck
theorem lookup_ix {Z : Zx} {F : Hp} : ∀ {l : List Str} {fs : List (Str × V)} {ds : List D} {i : Nat} {f : Str} {x : D} {n : Nat}, l.Nodup → fs.map (·.1) = l.take n → Reps Z F ds (fs.map (·.2)) → l[i]? = some f → ds[i]? = some x → ∃ v, fs.lookup f = some v ∧ Rep Z F x v
  | l, [], ds, i, f, x, n, nd, e, r, h1, h2 => by
    rw [List.map_nil] at r
    have := r.length
    have : ds = [] := List.eq_nil_of_length_eq_zero (by simpa using this)
    subst this
    simp at h2
  | [], p :: fs, ds, i, f, x, n, nd, e, r, h1, h2 => by simp at h1
  | g :: l, (a, b) :: fs, ds, i, f, x, 0, nd, e, r, h1, h2 => by simp at e
  | g :: l, (a, b) :: fs, [], i, f, x, n + 1, nd, e, r, h1, h2 => by simp at h2
  | g :: l, (a, b) :: fs, d :: ds, 0, f, x, n + 1, nd, e, r, h1, h2 => by
    simp at e h1 h2
    subst h1 h2
    obtain ⟨v, r', e2, h3, h4⟩ := reps_cons_inv r
    simp at e2
    refine ⟨b, ?_, by rw [e2.1]; exact h3⟩
    simp [List.lookup, e.1]
  | g :: l, (a, b) :: fs, d :: ds, i + 1, f, x, n + 1, nd, e, r, h1, h2 => by
    simp at e h1 h2
    obtain ⟨v, r', e2, h3, h4⟩ := reps_cons_inv r
    simp at e2
    have nd' := List.nodup_cons.mp nd
    obtain ⟨v', h5, h6⟩ := lookup_ix (fs := fs) (n := n) nd'.2 e.2 (by rw [e2.2]; exact h4) h1 h2
    refine ⟨v', ?_, h6⟩
    have hne : f ≠ a := fun z => nd'.1 (by
      rw [← e.1, ← z]
      exact List.mem_of_getElem? h1)
    have : (f == a) = false := by simpa using hne
    simp [List.lookup, this, h5]
section
variable {X : Cx} {Z : Zy} {W : WX} {e o : Expr} {f g : DE} {pos : Pos} {c i : Nat} {nm : Str}
theorem de_fld (he : PE X e (tE Z W f)) (hK : X.K = Z.K) (hc : ClsOk X.K Z.toZx c) (hn : NoAttr X.K (Z.cl c) nm) (hi : (Z.fl c)[i]? = some nm) (hb : attributeBase e nm X.env (eval e X.env) = eval e X.env := by rfl) : PE X (.Attribute e nm pos) (tE Z W (eUn (kFld c i) f)) :=
  (pe_fld he hb).weak fun σ H Q q => tE_imp (fun x H1 ⟨A, F, sl, ce, v, so, hs, r, p⟩ => by
    unfold kFld at p
    split at p
    · rename_i d ds
      by_cases hd : d = c
      · rw [if_pos hd] at p
        subst hd
        split at p
        · rename_i y hy
          unfold VRep Rep at r
          obtain ⟨a, dx, fs, rfl, h1, h2, h3⟩ := r
          obtain ⟨v, h4, h5⟩ := lookup_ix (n := (Z.fl d).length) hc.nd (by rw [h2, List.take_length]) h3 hi hy
          exact ⟨a, _, dx, fs, v, rfl, so.sub _ _ h1, hc.cls, hn, h4, fin_flat so p h5⟩
        · exact p.elim
      · rw [if_neg hd] at p
        exact p.elim
    · split at p
      · rename_i k d ds hk
        by_cases hd : d = c
        · rw [if_pos hd] at p
          subst hd
          split at p
          · rename_i y hy
            obtain ⟨a, ha, rfl⟩ := r
            obtain ⟨_, dx, fs, h1, h2, h3⟩ := so.ok _ _ _ ha hk
            obtain ⟨v, h4, h5⟩ := lookup_ix hc.nd h2 h3 hi hy
            exact ⟨a, _, dx, fs, v, rfl, h1, hc.cls, hn, h4, fin_flat so p h5⟩
          · exact p.elim
        · rw [if_neg hd] at p
          exact p.elim
      · exact p.elim
    · exact p.elim) (tE1 q)
/-- self.f = e: f is the i-th field -/
def sFldSet (c i : Nat) (f g : DE) : DSt := sExp g fun u => sExp f fun v sl ce => match v, u with
  | .cell k, .im d => match ce[k]? with
    | some (.ins c' ds) => if c' = c then (if i < ds.length then .nx sl (ce.set k (.ins c (ds.set i d))) else if i = ds.length then .nx sl (ce.set k (.ins c (ds ++ [d]))) else .stuck) else .stuck
    | _ => .stuck
  | _, _ => .stuck
theorem putF_old {Z : Zx} {F : Hp} : ∀ {l : List Str} {fs : List (Str × V)} {ds : List D} {i : Nat} {nm : Str} {x : D} {v : V} {n : Nat}, l.Nodup → fs.map (·.1) = l.take n → Reps Z F ds (fs.map (·.2)) → l[i]? = some nm → i < ds.length → Rep Z F x v →
    (putF nm v fs).map (·.1) = l.take n ∧ Reps Z F (ds.set i x) ((putF nm v fs).map (·.2))
  | l, [], ds, i, nm, x, v, n, nd, e, r, h1, h2, rx => by
    have := r.length
    simp at this
    subst this
    simp at h2
  | [], p :: fs, ds, i, nm, x, v, n, nd, e, r, h1, h2, rx => by simp at h1
  | g :: l, (a, b) :: fs, ds, i, nm, x, v, 0, nd, e, r, h1, h2, rx => by simp at e
  | g :: l, (a, b) :: fs, [], i, nm, x, v, n + 1, nd, e, r, h1, h2, rx => by simp at h2
  | g :: l, (a, b) :: fs, d :: ds, 0, nm, x, v, n + 1, nd, e, r, h1, h2, rx => by
    simp at e h1
    subst h1
    obtain ⟨w, r', e2, h3, h4⟩ := reps_cons_inv r
    simp at e2
    unfold putF
    rw [if_pos e.1]
    refine ⟨by simp [e], ?_⟩
    simp only [List.map_cons, List.set_cons_zero]
    exact reps_cons rx (by rw [e2.2]; exact h4)
  | g :: l, (a, b) :: fs, d :: ds, i + 1, nm, x, v, n + 1, nd, e, r, h1, h2, rx => by
    simp at e h1 h2
    obtain ⟨w, r', e2, h3, h4⟩ := reps_cons_inv r
    simp at e2
    have nd' := List.nodup_cons.mp nd
    have hne : ¬ a = nm := fun z => nd'.1 (by
      rw [← e.1, z]
      exact List.mem_of_getElem? h1)
    obtain ⟨h5, h6⟩ := putF_old (fs := fs) (n := n) nd'.2 e.2 (by rw [e2.2]; exact h4) h1 (by omega) rx
    unfold putF
    rw [if_neg hne]
    refine ⟨by simp [e.1, h5], ?_⟩
    simp only [List.map_cons, List.set_cons_succ]
    exact reps_cons (by rw [e2.1]; exact h3) h6
theorem putF_new : ∀ {fs : List (Str × V)} {nm : Str} {v : V}, nm ∉ fs.map (·.1) → putF nm v fs = fs ++ [(nm, v)]
  | [], nm, v, h => rfl
  | (a, b) :: fs, nm, v, h => by
    simp at h
    unfold putF
    rw [if_neg fun z => h.1 z.symm, putF_new (by simpa using h.2)]
    rfl
theorem ds_fld {pos' : Pos} (ho : PE X o (tE Z W f)) (he : PE X e (tE Z W g)) (hK : X.K = Z.K) (hc : ClsOk X.K Z.toZx c) (hn : NoAttr X.K (Z.cl c) nm) (hi : (Z.fl c)[i]? = some nm) (hfew : (Z.fl c).length < 1000) (hs : swapsWith e (some (.Attribute o nm pos')) pos.line X.env = pure false := by rfl) : PS X (.Assign [.Attribute o nm pos'] e pos) (tS Z W (sFldSet c i f g)) :=
  (ps_fld ho he hs).weak fun D σ H q => tE_imp (fun y H1 ⟨A, F, sl, ce, u, so, hs, ru, p⟩ => by
    refine ⟨A, F, sl, ce, so, hs, (PostS.exp so hs p).imp fun x H2 ⟨A1, F1, ce1, v, p1, e1, s1, r1, q1⟩ => ?_⟩
    have ru1 := ru.mono p1 e1
    split at q1
    · split at q1
      · rename_i k d _ _ c' ds hk
        by_cases hcc : c' = c
        · rw [if_pos hcc] at q1
          subst hcc
          obtain ⟨a, ha, rfl⟩ := r1
          obtain ⟨hF, dx, fs, h1, h2, h3⟩ := s1.ok _ _ _ ha hk
          have hlen : fs.length = ds.length := by rw [h3.length, List.length_map]
          have hfs : fs.length < 1000 := by
            have : (fs.map (·.1)).length ≤ (Z.fl c').length := by rw [h2]; simp; omega
            simp at this
            omega
          refine ⟨a, _, dx, fs, rfl, h1, hc.cls, hn, hfs, ?_⟩
          by_cases hl : i < ds.length
          · rw [if_pos hl] at q1
            obtain ⟨h5, h6⟩ := putF_old hc.nd h2 h3 hi hl ru1
            exact nxS (s1.write (c := .ins c' (ds.set i d)) ha hF ⟨hF, dx, _, upd_same, by simpa using h5, h6⟩) (hs.mono p1 e1) q1
          · rw [if_neg hl] at q1
            by_cases hl2 : i = ds.length
            · rw [if_pos hl2] at q1
              have hil : i < (Z.fl c').length := (List.getElem?_eq_some_iff.mp hi).1
              have hno : nm ∉ fs.map (·.1) := by
                rw [h2]
                intro z
                obtain ⟨j, hj⟩ := List.getElem?_of_mem z
                have hjl : j < ds.length := by
                  have := (List.getElem?_eq_some_iff.mp hj).1
                  simp at this
                  omega
                rw [List.getElem?_take_of_lt hjl] at hj
                have := (List.getElem?_inj (List.getElem?_eq_some_iff.mp hi).1 hc.nd).mp (hi.trans hj.symm)
                omega
              refine nxS (s1.write (c := .ins c' (ds ++ [d])) ha hF ⟨hF, dx, _, upd_same, ?_, ?_⟩) (hs.mono p1 e1) q1
              · rw [putF_new hno, List.map_append, h2]
                simp only [List.map_cons, List.map_nil, List.length_append, List.length_cons, List.length_nil]
                rw [List.take_add_one, ← hl2, hi]
                rfl
              · rw [putF_new hno, List.map_append]
                exact h3.append (reps_cons ru1 reps_nil)
            · rw [if_neg hl2] at q1
              exact q1.elim
        · rw [if_neg hcc] at q1
          exact q1.elim
      · exact q1.elim
    · exact q1.elim) (tS1 q)
end
inductive Ty where
  | t (n : String) | c (n : Nat)
  deriving DecidableEq
def D.ty : D → Ty
  | .non => .t "NoneType" | .bl _ => .t "bool" | .int _ => .t "int" | .str _ => .t "str" | .tup _ => .t "tuple" | .lst _ => .t "list" | .wl _ => .t "list" | .ins c _ => .c c | .dct _ _ => .t "dict"
def tyVal (Z : Zx) : Ty → Value
  | .t n => .type n
  | .c n => .ref (Z.cl n)
/-- isinstance(e, T): tst tells for which types -/
def kIsi (tst : Ty → Option Bool) (v : Val) : DE := fun _ ce => match v with
  | .im (.wl _) => .stuck
  | .im (.dct _ _) => .stuck
  | .im d => match tst d.ty with
    | some b => .ok (.im (.bl b)) ce
    | none => .stuck
  | _ => .stuck
section
variable {X : Cx} {Z : Zy} {W : WX} {p p2 pos : Pos} {e : Expr} {f : DE} {x : Str} {cv : V} {u : Value} {tst : Ty → Option Bool}
/-- what isinstance asks of an own class -/
structure IsiC (K : PySem.W.Frag) (C : Addr) : Prop where
  cl : Cls K C
  ha : PySem.W.findIn K (.ref C) "__class__" = some (some (.builtin "object.__class__"))
  hn : PySem.W.specialIn K (.builtin "object.__class__") "__get__" = some (some (.builtin "getset_descriptor.__get__"))
  ht : PySem.W.takesIn K (.builtin "object.__class__") = some true
  hm : PySem.W.mroIn K C (.type "object") = some true
theorem d_tyx {F H : Hp} {d : D} {y : V} (so : Same F H) (r : Rep Z.toZx F d y) (hcl : ∀ c ds, d = .ins c ds → IsiC Z.K (Z.cl c)) (hnd : ∀ ks vs, d ≠ .dct ks vs) : TyX Z.K H y (tyVal Z.toZx d.ty) := by
  cases d with
  | non => unfold Rep at r; subst r; exact .base .non
  | bl b => unfold Rep at r; subst r; exact .base (.bl b)
  | int b => unfold Rep at r; subst r; exact .base (.int b)
  | str b => unfold Rep at r; subst r; exact .base (.str b)
  | tup ds =>
    unfold Rep at r
    obtain ⟨a, vs, rfl, h1, h2⟩ := r
    rcases same_seqT so h1 with (h | ⟨o, h⟩) | ⟨o, its, n, h3, h4, _⟩
    · exact .base (.tup h)
    · exact .fTuple h
    · exact .kTuple h3 h4
  | lst ds =>
    unfold Rep at r
    obtain ⟨a, vs, rfl, h1, h2⟩ := r
    exact .base (.lst (so _ _ h1))
  | dct ks vs => exact absurd rfl (hnd ks vs)
  | ins c ds =>
    unfold Rep at r
    obtain ⟨a, dx, fs, rfl, h1, h2⟩ := r
    have q := hcl c ds rfl
    exact .base (.ins (so _ _ h1) q.cl q.ha q.hn q.ht q.hm)
  | wl ds =>
    unfold Rep at r
    obtain ⟨a, vs, rfl, h1, h2⟩ := r
    rcases so.seq h1 with (h | ⟨o, h⟩) | ⟨o, its, n, h3, h4, _⟩
    · exact .base (.lst h)
    · exact .base (.frz h)
    · exact .kList h3 h4
theorem de_isi {T : Expr} (hT : PE X T (tC cv)) (hcv : ClsV cv u) (hK : X.K = Z.K) (hk : ∀ ty b, tst ty = some b → PySem.W.kitOne X.K (tyVal Z.toZx ty) u = some b) (hcl : ∀ c b, tst (.c c) = some b → IsiC X.K (Z.cl c)) (he : PE X e (tE Z W f)) (hm : X.mg "isinstance" = none)
    (hg : Gl X "isinstance" := by rfl) (hs : starEach [e, T] X.env = (false, eval e X.env) :: starEach [T] X.env := by rfl) (hs2 : starEach [T] X.env = (false, eval T X.env) :: starEach [] X.env := by rfl) (hpl : (backTo pos (starEach [T] X.env)).any (·.1) = false := by rfl) :
    PE X (.Call (.Name "isinstance" p) [e, T] [] pos) (tE Z W (eUn (kIsi tst) f)) :=
  (pe_callB call_isi hg hm (by decide +kernel) (pa_cons he (pa_cons hT pa_nil hs2) hs) (by decide) (by decide) hs hpl).weak fun σ H Q q => tE_imp (fun x H1 ⟨A, F, sl, ce, v, so, hs, r, p⟩ => by
    unfold kIsi at p
    show rIsi X.K [x, cv] H1 Q
    split at p
    · exact p.elim
    · exact p.elim
    · rename_i d _ hnd
      split at p
      · rename_i b hb
        exact ⟨x, cv, _, u, b, rfl, hcv, by rw [hK]; exact d_tyx so.sub r (fun c ds e => by subst e; rw [← hK]; exact hcl c b hb) (fun ks vs e => hnd ks vs (by rw [e])), hk _ b hb, fin_flat so p repB⟩
      · exact p.elim
    · exact p.elim) (tE1 q)
end
end ZZ
set_option Elab.async false
set_option linter.all false
set_option maxRecDepth 100000
namespace L2N
open PySem PySem.Spec PyProof.Rows L2
theorem pmk_oex {X : Cx} {CX : CXT} {x : Str} {e : Expr} {es : List Expr} {ta : TA} {p pos : Pos} {C fI : Addr} {k : Nat} {fd : FuncData} {ps : List Str} {sp : Sp} {ds : List Value} {dvs : List V} (T : OexC X.K C) (iC : PySem.W.findIn X.K (.ref C) "__init__" = some (some (.ref fI))) (tI : PySem.W.typeIn X.K (.ref fI) = some (.type "function"))
    (F1 : FnOk X.prog X.w X.K X.mg X.base CX k fI fd ps sp) (hr : Room (k + 1) X.A) (hb : Binds X.K fd ps ds) (hd : Vals dvs ds) (hx : Passes CX X (fun _ _ _ => False)) (hg : Gl X x) (hm : X.mg x = some (.ref C)) (ha : PA X (e :: es) ta)
    (hdb : (x == ("__debug__" : Str)) = false := by decide) (he : starEach (e :: es) X.env = (false, eval e X.env) :: starEach es X.env := by rfl) (hpl : (backTo pos (starEach es X.env)).any (·.1) = false := by rfl) :
    L2N.PMk X (.Call (.Name x p) (e :: es) [] pos) (tMkO C sp dvs ta) := by
  intro pins s σ H Q I h
  obtain ⟨nm, q, N, bs, bm, sn, sub, ab, col, dd, k0, k1, k2, k3, k5, hC, hbm⟩ := T.cls
  refine wpAny_Call_Name_kw (ld_glob I hg hm ?_ hdb)
  refine PySem.W.callWith_K (h₀ := X.base) I.ok.mod.kin T.kC (thn (ha.run pos pins s σ H _ I h) fun us s1 ⟨vs, H1, I1, r1, hz, q1⟩ => ⟨I1.kIn, ?_⟩) he hpl
  show wpAny _ _ (call (.ref C) us) _ _ _
  obtain ⟨hp, g, dr, tk, os⟩ := s1
  have hsz : hp.objs.size ≤ hp.objs.size + 1 := Nat.le_succ _
  have hn : H1 (hp.objs.size + 1) = none := I1.hok.fresh hsz
  have hq := q1 (hp.objs.size + 1) hn
  have kk : ∀ b o, hp.get? b = some o → ((hp.push (PySem.W.kdv_tup us)).push (PySem.HandSPX.excO C hp.objs.size)).get? b = some o := fun b o e => Heap.get?_push_of_some _ (Heap.get?_push_of_some _ e)
  have hget : ((hp.push (PySem.W.kdv_tup us)).push (PySem.HandSPX.excO C hp.objs.size)).get? (hp.objs.size + 1) = some (PySem.HandSPX.excO C hp.objs.size) := by heap_get
  have I2 : Inv X pins σ (upd H1 (hp.objs.size + 1) (exo (hp.objs.size + 1) C none)) ⟨(hp.push (PySem.W.kdv_tup us)).push (PySem.HandSPX.excO C hp.objs.size), g, dr, tk, os⟩ :=
    I1.laid (t' := tk) (a := hp.objs.size + 1) (o := exo (hp.objs.size + 1) C none) (h' := (hp.push (PySem.W.kdv_tup us)).push (PySem.HandSPX.excO C hp.objs.size)) kk hsz (exo_ok hget)
  have r2 : Vals (V.ref (hp.objs.size + 1) :: (vs ++ dvs)) (Value.ref (hp.objs.size + 1) :: (us ++ ds)) := .cons rfl (r1.append hd)
  have hl : (Value.ref (hp.objs.size + 1) :: us ++ ds).length = ps.length := by
    have e := r2.length
    rw [F1.len _ _ _ _ hq] at e
    exact e.symm
  have hus : us.length ≤ sizeLine := by
    rw [← Paired.length r1, sizeLine_eq]
    omega
  refine wpAny_call (PySem.HandSPX.call_own F.excBase_ValueError (fun Y => PySem.HandSPX.refsVE_contains Y bm hbm) (I1.kIn _ _ hC) (PySem.W.looks_findIn I1.kIn iC) (fun self => PySem.W.bind_fn I1.kIn self tI) hus
    (codeAny_mono (F1.run _ X.stack _ _ ⟨Value.ref (hp.objs.size + 1) :: us, []⟩ (Value.ref (hp.objs.size + 1) :: (us ++ ds)) _ _ (fun _ _ _ => False) (hr.make C us []) (I2.env0.make C us []) (hb _ (Value.ref (hp.objs.size + 1) :: us) I2.kIn hl) r2 hq) fun r s' hq' => ?_))
  cases r with
  | error er => exact hx pins σ _ _ er s' I2 hq'
  | ok fl =>
    cases fl with
    | ret u =>
      obtain ⟨v, H2, os2, bare2, un2, hok2, rv, ev, d, fs, ea, ed, hd1, q2⟩ := hq'
      subst ev
      obtain ⟨h2, g2, d2, t2, os'⟩ := s'
      refine ⟨rv, ?_⟩
      obtain ⟨t0, G, J, kG, ge, hoe, na⟩ := mk_end0 (d2 := d2) (t2 := t2) I1 hsz kk un2 hok2 os2 bare2 ea ed hd1
      exact ⟨_, _, _, ⟨G, g2, d2, t2, os'⟩, _, .ref C, some d, rfl, J, kG, ge, hoe, ⟨rfl, rfl, fun vs e => by cases e; rfl⟩, rfl, rfl, na, rfl, bare2, raises_own T.exC T.tyC, q2⟩
    | next => exact False.elim hq'
    | brk => exact False.elim hq'
    | cont => exact False.elim hq'
end L2N
namespace ZZ
open PySem PySem.Spec L2
def spI1 (K : PySem.W.Frag) (f : Str) : Sp := fun vs H Q _ => ∃ a C v, vs = [.ref a, v] ∧ OexC K C ∧ PySem.W.findIn K (.ref C) f = some none ∧ H a = some (exo a C none) ∧
  ∀ dx, H dx = none → dx ≠ a → Q .non (upd (upd H dx (exd dx [(f, v)])) a (exo a C (some dx)))
def sArgs : List DE → (List Val → DSt) → DSt
  | [], k => k []
  | f :: fs, k => sExp f fun v => sArgs fs fun vs => k (v :: vs)
/-- C(e, ..): the last argument's field stands first in the error's dict -/
def sRaise (c : Nat) (fs : List DE) : DSt := sArgs fs fun vs sl ce => match ims vs with
  | some ds => .exc c ds.reverse sl ce
  | none => .stuck
theorem tSN {Z : Zy} {W : WX} {D : Ends} {σ : L2.St} {sl : Sl} : ∀ {fs : List DE} {k : List Val → DSt} {A : List Addr} {F H : Hp} {ce : List Cell}, SO Z.toZx A F ce H → SL Z A F sl σ → PostS Z A F W D (sArgs fs k sl ce) →
    tArgs Z W fs σ H fun xs H1 => ∃ A1 F1 ce1 vs, A <+: A1 ∧ Same F F1 ∧ SO Z.toZx A1 F1 ce1 H1 ∧ VReps Z A1 F1 vs xs ∧ vs.length = fs.length ∧ PostS Z A1 F1 W D (k vs sl ce1)
  | [], k, A, F, H, ce, so, hs, p => ⟨A, F, ce, [], List.prefix_refl _, Same.refl _, so, rfl, rfl, p⟩
  | f :: fs, k, A, F, H, ce, so, hs, p => ⟨A, F, sl, ce, so, hs, (PostS.exp so hs p).imp fun x H1 ⟨A1, F1, ce1, v, p1, e1, s1, r1, q1⟩ =>
      tArgs_imp (fun xs H2 ⟨A2, F2, ce2, vs, p2, e2, s2, r2, l2, q2⟩ => ⟨A2, F2, ce2, v :: vs, p1.trans p2, e1.trans e2, s2, ⟨x, xs, rfl, r1.mono p2 e2, r2⟩, by simp [l2], q2⟩) (tSN s1 (hs.mono p1 e1) q1)⟩
section
variable {X : Cx} {Z : Zy} {W : WX} {p p2 pos pos2 : Pos} {x m : Str} {c j : Nat} {e e2 : Expr} {f g : DE}
theorem upd_swap {H : Hp} {a dx : Addr} {o o1 o2 o3 : HO} (h1 : H a = none) (h2 : dx ≠ a) : upd (del (upd (upd (upd H a o1) dx o2) a o) a) dx o3 = upd H dx o3 := by
  funext b
  unfold upd del
  by_cases hb : b = dx
  · simp [hb]
  · by_cases ha : b = a
    · simp [hb, ha, h1, Ne.symm h2]
    · simp [hb, ha]
theorem ds_raise1 {k : Nat} {fI : Addr} {fd : FuncData} {ps : List Str} {nm : Str} (hK : X.K = Z.K) (hc : X.calm = true) (tk : L2N.Takes X W) (T : OexC X.K (Z.cl c)) (iC : PySem.W.findIn X.K (.ref (Z.cl c)) "__init__" = some (some (.ref fI))) (tI : PySem.W.typeIn X.K (.ref fI) = some (.type "function"))
    (nf : PySem.W.findIn X.K (.ref (Z.cl c)) nm = some none) (hfl : Z.fl c = [nm]) (F1 : FnOk X.prog X.w X.K X.mg X.base CX0 k fI fd ps (spI1 X.K nm)) (hr : Room (k + 1) X.A) (hb : Binds X.K fd ps []) (hm : X.mg x = some (.ref (Z.cl c))) (ha : PA X [e] (tArgs Z W [f]))
    (hg : Gl X x := by rfl) (hdb : (x == ("__debug__" : Str)) = false := by decide) (he : starEach [e] X.env = (false, eval e X.env) :: starEach [] X.env := by rfl) (hpl : (backTo pos (starEach [] X.env)).any (·.1) = false := by rfl) :
    PS X (.Raise (some (.Call (.Name x p) [e] [] pos)) none pos2) (tS Z W (sRaise c [f])) :=
  (L2N.ps_raise hc tk (L2N.pmk_oex T iC tI F1 hr hb .nil pass0 hg hm ha hdb he hpl)).weak fun D σ H ⟨A, F, sl, ce, so, hs, p⟩ => by
    refine tArgs_imp (fun xs H1 ⟨A1, F1, ce1, vs, p1, e1, s1, r1, l1, q1⟩ => ?_) (tSN so hs p)
    have hl := r1.length
    have hx : xs.length = 1 := by rw [← hl, l1]; rfl
    refine ⟨by omega, fun a ha => ?_⟩
    obtain ⟨y, rfl⟩ := List.length_eq_one_iff.mp hx
    cases e2 : ims vs with
    | none => rw [e2] at q1; exact q1.elim
    | some ds =>
      rw [e2] at q1
      have rd := ims_rd r1 e2
      refine ⟨a, Z.cl c, y, rfl, T, nf, upd_same, fun dx h1 h2 => ⟨rfl, dx, [(nm, y)], upd_same, ?_, ?_, ?_⟩⟩
      · rw [upd_ne h2, upd_same]
      · rw [upd_ne h2] at h1
        exact h1
      · rw [upd_ne h2] at h1
        rw [upd_swap ha h2]
        refine q1 A1 (upd F1 dx (.xd [(nm, y)])) _ σ (some dx) (List.prefix_refl _) (same_up (s1.fnone h1)) (s1.new h1) ((hs.mono p1 e1).mono (List.prefix_refl _) (same_up (s1.fnone h1))) (.inr ⟨dx, _, rfl, upd_same, by rw [hfl]; rfl, ?_⟩)
        exact (rd.mono (same_up (s1.fnone h1))).reverse
end
end ZZ
set_option Elab.async false
set_option linter.all false
set_option maxRecDepth 100000
namespace ZZ
open PySem PySem.Spec L2
/-- a def of the text that keeps its promise -/
structure DOk (P : Program) (w : World) (K : PySem.W.Frag) (mg : Str → Option Value) (base : Heap) (k : Nat) (a : Addr) (ps : List Str) (sp : Sp) : Prop where
  ex : ∃ fd, FnOk P w K mg base (L2N.CX P w) k a fd ps sp ∧ Binds K fd ps []
  kp : PySem.W.keepIn K (.ref a) = true
/-- an exception's __init__ -/
structure IOk (P : Program) (w : World) (K : PySem.W.Frag) (mg : Str → Option Value) (base : Heap) (a : Addr) (ps : List Str) (sp : Sp) : Prop where
  ex : ∃ fd, FnOk P w K mg base CX0 1 a fd ps sp ∧ Binds K fd ps []
section
variable {X : Cx} {Z : Zy} {W : WX} {k n : Nat} {fa : Addr} {ps : List Str} {fh : DF} {x m nm : Str} {p pos pos2 apos : Pos} {e o : Expr} {es : List Expr} {f : DE} {fs : List DE} {c nf : Nat}
theorem de_callD (G : DOk X.prog X.w X.K X.mg X.base k fa ps (spD Z.toZx fh n)) (hr : Room k X.A) (hm : X.mg x = some (.ref fa)) (tw : TW X W) (ha : PA X (e :: es) (tArgs Z W fs))
    (hg : Gl X x := by rfl) (hl : fs.length = n := by rfl) (hdb : (x == ("__debug__" : Str)) = false := by decide) (he : starEach (e :: es) X.env = (false, eval e X.env) :: starEach es X.env := by rfl) (hpl : (backTo pos (starEach es X.env)).any (·.1) = false := by rfl) :
    PE X (.Call (.Name x p) (e :: es) [] pos) (tE Z W (eArgs fs (kCall fh))) := by
  obtain ⟨fd, F, b⟩ := G.ex
  exact de_call F hr hm G.kp b tw ha hg hl hdb he hpl
theorem de_makeD (M : Mk X.K (Z.cl c) fa) (G : DOk X.prog X.w X.K X.mg X.base k fa ps (spD Z.toZx fh (n + 1))) (hr : Room (k + 1) X.A) (hm : X.mg x = some (.ref (Z.cl c))) (tw : TW X W) (ha : PA X (e :: es) (tArgs Z W fs)) (hfl : (Z.fl c).length = nf)
    (hg : Gl X x := by rfl) (hl : fs.length = n := by rfl) (hdb : (x == ("__debug__" : Str)) = false := by decide) (he : starEach (e :: es) X.env = (false, eval e X.env) :: starEach es X.env := by rfl) (hpl : (backTo pos (starEach es X.env)).any (·.1) = false := by rfl) :
    PE X (.Call (.Name x p) (e :: es) [] pos) (tE Z W (eArgs fs (kMake c nf fh))) := by
  obtain ⟨fd, F, b⟩ := G.ex
  exact de_make M F hr hm b tw ha hfl hg hl hdb he hpl
/-- an error's class with one field -/
structure Ex1 (P : Program) (w : World) (K : PySem.W.Frag) (mg : Str → Option Value) (base : Heap) (Z : Zx) (c : Nat) (nm : Str) (fI : Addr) (ps : List Str) : Prop where
  o : OexC K (Z.cl c)
  i : PySem.W.findIn K (.ref (Z.cl c)) "__init__" = some (some (.ref fI))
  t : PySem.W.typeIn K (.ref fI) = some (.type "function")
  n : PySem.W.findIn K (.ref (Z.cl c)) nm = some none
  f : Z.fl c = [nm]
  g : IOk P w K mg base fI ps (spI1 K nm)
theorem ds_raise1D {fI : Addr} (hK : X.K = Z.K) (hc : X.calm = true) (tk : L2N.Takes X W) (E1 : Ex1 X.prog X.w X.K X.mg X.base Z.toZx c nm fI ps) (hr : Room 2 X.A) (hm : X.mg x = some (.ref (Z.cl c))) (ha : PA X [e] (tArgs Z W [f]))
    (hg : Gl X x := by rfl) (hdb : (x == ("__debug__" : Str)) = false := by decide) (he : starEach [e] X.env = (false, eval e X.env) :: starEach [] X.env := by rfl) (hpl : (backTo pos (starEach [] X.env)).any (·.1) = false := by rfl) :
    PS X (.Raise (some (.Call (.Name x p) [e] [] pos)) none pos2) (tS Z W (sRaise c [f])) := by
  obtain ⟨fd, F, b⟩ := E1.g.ex
  exact ds_raise1 hK hc tk E1.o E1.i E1.t E1.n E1.f F hr b hm ha hg hdb he hpl
end
def kNeg (v : Val) : DE := fun _ ce => match v with
  | .im (.int i) => .ok (.im (.int (-i))) ce
  | _ => .stuck
def asStrs : List D → Option (List Str)
  | [] => some []
  | .str s :: ds => (asStrs ds).map (s :: ·)
  | _ :: _ => none
section
variable {X : Cx} {Z : Zy} {W : WX} {e o i : Expr} {f g h : DE} {pos apos cpos p1 p2 p3 : Pos}
theorem de_neg (he : PE X e (tE Z W f)) : PE X (.UnaryOp .USub e pos) (tE Z W (eUn kNeg f)) := (pe_un un_neg he).weak fun σ H Q q => tE_imp (fun x H1 ⟨A, F, sl, ce, v, so, hs, r, p⟩ => by
  unfold kNeg at p
  split at p
  · exact ⟨_, rep_int r, fin_flat so p repI⟩
  · exact p.elim) (tE1 q)
end
end ZZ
set_option Elab.async false
set_option linter.all false
set_option maxRecDepth 100000
namespace L2
open PySem PySem.Spec PyProof.Rows
/-- a zip's records between two turns of a walk that keeps what it gives out -/
def ZHeld (z TI TO i1 i2 a b : Addr) (i : Nat) (H : Hp) (h : Heap) : Prop :=
  IsPair h TI (.ref i1) (.ref i2) ∧ (∃ x y, IsPair h TO x y) ∧ h.IsListIter i1 a i ∧ h.IsListIter i2 b i ∧ (IsZip h z TI TO .none ∨ ∃ T f xs, IsZipHeld h z TI TO T f ∧ H T = some (.tup xs))
section
variable {X : Cx} {pins : List (Addr × Obj)} {σ : L2.St} {H : Hp} {s : Shared} {z TI TO i1 i2 a b q : Addr} {i : Nat} {xs ys : List V} {x y : V} {A A1 : Around} {E : Value → Shared → Prop}
theorem ZHeld.lt (st : ZHeld z TI TO i1 i2 a b i H s.heap) : ∀ c ∈ [z, TI, TO, i1, i2], c < s.heap.objs.size := by
  obtain ⟨hTI, ⟨x0, y0, hTO⟩, ⟨o1, h1, _⟩, ⟨o2, h2, _⟩, hz⟩ := st
  have hzl : z < s.heap.objs.size := by
    rcases hz with hz | ⟨T, f, vs, hz, _⟩
    · exact Heap.lt_size hz
    · exact Heap.lt_size hz
  intro c hc
  have e' : c = z ∨ c = TI ∨ c = TO ∨ c = i1 ∨ c = i2 := by simpa using hc
  rcases e' with q | q | q | q | q
  · rw [q]; exact hzl
  · rw [q]; exact Heap.lt_size hTI
  · rw [q]; exact Heap.lt_size hTO
  · rw [q]; exact Heap.lt_size h1
  · rw [q]; exact Heap.lt_size h2
end
end L2
set_option Elab.async false
set_option linter.all false
set_option maxRecDepth 100000
namespace L2
open PySem PySem.Spec
section
variable {X : Cx} {CX : CXT} {k : Nat} {f C p : Addr} {fd : FuncData} {ps : List Str} {sp : Sp} {E : L2.St → XK} {x m : Str} {pos apos : Pos} {a b e o : Expr} {es : List Expr} {ta tb : TE} {t : TA}
/-- a text times a number -/
theorem op_repS : OpR X (binaryOp .Mult) (fun x y H Q => ∃ a n, x = .str a ∧ y = .int n ∧ MulOk a n ∧ Q (.str (Txt.mul a n)) H) := by
  intro pins s σ H x y v u Q I rx ry h
  obtain ⟨a, n, rfl, rfl, hm, q⟩ := h
  obtain ⟨t, rfl⟩ := rx
  obtain ⟨t2, rfl⟩ := ry
  exact PySem.SB.mul hm fun t' k => ⟨.str _, H, I.tok k, ⟨t', rfl⟩, q⟩
end
end L2
namespace ZZ
open PySem PySem.Spec L2
section
variable {X : Cx} {Z : Zy} {W : WX} {k n : Nat} {fa pa : Addr} {ps : List Str} {fh : DF} {x m nm : Str} {p pos pos2 apos : Pos} {a b e e2 o : Expr} {es : List Expr} {f g : DE} {fs : List DE} {c : Nat}
theorem reps_strs {F : Hp} : ∀ {ds : List D} {vs : List V} {ys : List Str}, Reps Z.toZx F ds vs → asStrs ds = some ys → vs = ys.map V.str
  | [], vs, ys, r, e => by
    cases e
    exact reps_nil_inv r
  | .str s :: ds, vs, ys, r, e => by
    unfold asStrs at e
    obtain ⟨v, r', rfl, h1, h2⟩ := reps_cons_inv r
    cases hh : asStrs ds with
    | none => rw [hh] at e; cases e
    | some zs =>
      rw [hh] at e
      cases e
      unfold Rep at h1
      rw [h1, reps_strs h2 hh]
      rfl
  | .non :: ds, vs, ys, r, e => by cases e
  | .bl _ :: ds, vs, ys, r, e => by cases e
  | .int _ :: ds, vs, ys, r, e => by cases e
  | .tup _ :: ds, vs, ys, r, e => by cases e
  | .lst _ :: ds, vs, ys, r, e => by cases e
  | .wl _ :: ds, vs, ys, r, e => by cases e
  | .ins _ _ :: ds, vs, ys, r, e => by cases e
def kJoin (v : Val) (vs : List Val) : DE := fun _ ce => match v, vs with
  | .im (.str a), [u] => match asL ce u with
    | some ds => match asStrs ds with
      | some ys => if (ys.map (·.length)).sum + ys.length * a.length ≤ 16777216 then .ok (.im (.str (Txt.join a ys))) ce else .stuck
      | none => .stuck
    | none => .stuck
  | _, _ => .stuck
theorem de_join {cpos : Pos} (hK : X.K = Z.K) (ho : PE X o (tE Z W f)) (ha : PE X e (tE Z W g))
    (hb : attributeBase o "join" X.env (eval o X.env) = eval o X.env := by rfl) (hl : (apos.endLine == cpos.line) = true := by rfl) (hs : starEach [e] X.env = (false, eval e X.env) :: starEach [] X.env := by rfl)
    (hfew : ((backTo cpos (starEach [e] X.env)).all (fun x => !x.1) && (backToKw cpos (keywordEach [] X.env)).all (fun x => x.1.isSome)
      && decide ([e].length + ([] : List Keyword).length + (if ([] : List Keyword).isEmpty then 0 else 1) < 30)) = true := by rfl) :
    PE X (.Call (.Attribute o "join" apos) [e] [] cpos) (tE Z W (eMth tyS kJoin f [g])) :=
  de_bm PySem.F.plainAttrs_str PySem.F.slot_str_join PySem.F.type_str_join mt_join ⟨tyS_ok, fun A F sl ce v x vs xs H σ Q so hs rv rs p => by
    unfold kJoin at p
    split at p
    · rename_i u
      split at p
      · rename_i ds e1
        split at p
        · rename_i ys e2
          split at p
          · rename_i hz
            obtain ⟨y, rfl, ry⟩ := vreps1 rs
            obtain ⟨l, ws, rfl, h1, h2⟩ := asL_rd so ry e1
            have := reps_strs h2 e2
            subst this
            rw [rep_str rv]
            exact ⟨_, l, ys, rfl, rfl, .inl (SqL.of h1), hz, fin_flat so p repS⟩
          · exact p.elim
        · exact p.elim
      · exact p.elim
    · exact p.elim⟩ ho (da_cons ha da_nil hs) hb hl hs rfl hfew
def kRepS (v u : Val) : DE := fun _ ce => match v, u with
  | .im (.str a), .im (.int n) => if a.length ≤ 1000 ∧ -1000 ≤ n ∧ n ≤ 1000 then .ok (.im (.str (Txt.mul a n))) ce else .stuck
  | _, _ => .stuck
theorem mulOk_small {a : Str} {n : Int} (h1 : a.length ≤ 1000) (h2 : -1000 ≤ n) (h3 : n ≤ 1000) : MulOk a n := by
  refine ⟨by simp; omega, fun h _ => ?_, fun h _ => ?_⟩
  · have hp : 0 < n := by omega
    have : (1000 : Int) ≤ (2 ^ 63 - 1) / n := Int.le_ediv_of_mul_le hp (by omega)
    omega
  · have : a.length * n.toNat ≤ 1000 * 1000 := Nat.mul_le_mul h1 (by omega)
    simp [Builtin.Str.tooLong, sizeLine_eq]
    omega
theorem de_repS (ha : PE X a (tE Z W f)) (hb : PE X b (tE Z W g)) : PE X (.BinOp a .Mult b pos) (tE Z W (eBin kRepS f g)) := de_op op_repS (fun A F sl ce v u x y H σ Q so hs rv ru p => by
  unfold kRepS at p
  split at p
  · rename_i a n
    split at p
    · rename_i hc
      rw [rep_str rv, rep_int ru]
      exact ⟨a, n, rfl, rfl, mulOk_small hc.1 hc.2.1 hc.2.2, fin_flat so p repS⟩
    · exact p.elim
  · exact p.elim) ha hb
end
def relD : D → Value → Prop
  | .str s, u => ∃ t, u = .str s t
  | .int i, u => ∃ t, u = .int i t
  | .non, u => u = .none
  | _, _ => False
def Ents : List DictEntry → List (Str × D) → Prop
  | [], [] => True
  | e :: es, (k, v) :: kvs => (∃ t, e.key = .str k t) ∧ relD v e.val ∧ Ents es kvs
  | _, _ => False
/-- the name x stands for a dict with these entries -/
structure DctS (w : World) (K : PySem.W.Frag) (mg : Str → Option Value) (x : Str) (kvs : List (Str × D)) : Prop where
  ex : ∃ d es n, mg x = some (.ref d) ∧ KDict K w d es n ∧ Ents es.toList kvs
theorem ents_find {z : Str} : ∀ {es : List DictEntry} {kvs : List (Str × D)}, Ents es kvs → match kvs.lookup z with
    | some v => ∃ e, es.find? (·.key.isStr z) = some e ∧ relD v e.val
    | none => es.find? (·.key.isStr z) = none ∧ es.any (·.refKey) = false
  | [], [], _ => ⟨rfl, rfl⟩
  | [], _ :: _, h => h.elim
  | _ :: _, [], h => h.elim
  | e :: es, (k, v) :: kvs, h => by
    obtain ⟨⟨t, ek⟩, rv, he⟩ := h
    have ih := ents_find (z := z) he
    have hi : e.key.isStr z = (k == z) := by rw [ek]; rfl
    rw [List.lookup_cons]
    by_cases hz : z = k
    · subst hz
      simp only [beq_self_eq_true, if_true]
      refine ⟨e, ?_, rv⟩
      rw [List.find?_cons, hi]
      simp
    · have h1 : (z == k) = false := beq_false_of_ne hz
      have h2 : (k == z) = false := beq_false_of_ne (Ne.symm hz)
      simp only [h1]
      rw [List.find?_cons, hi, h2]
      cases hl : kvs.lookup z with
      | some v' => rw [hl] at ih; exact ih
      | none =>
        rw [hl] at ih
        refine ⟨ih.1, ?_⟩
        have : e.refKey = false := by
          unfold DictEntry.refKey
          rw [ek]
        rw [List.any_cons, this, ih.2]
        rfl
theorem dct_ns {K : PySem.W.Frag} {w : World} {d : Addr} {es : Array DictEntry} {n : Nat} {kvs : List (Str × D)} (D : KDict K w d es n) (h : Ents es.toList kvs) (z : Str) : ∃ r, PySem.W.nsIn K d z = some r ∧ r.isSome = (kvs.lookup z).isSome ∧ ∀ v, kvs.lookup z = some v → ∃ u, r = some u ∧ relD v u := by
  have := ents_find (z := z) h
  unfold PySem.W.nsIn
  rw [D.at_]
  dsimp only
  cases hl : kvs.lookup z with
  | some v =>
    rw [hl] at this
    obtain ⟨e, he, r⟩ := this
    rw [he]
    exact ⟨_, rfl, rfl, fun v' e' => by cases e'; exact ⟨_, rfl, r⟩⟩
  | none =>
    rw [hl] at this
    rw [this.1]
    dsimp only
    rw [this.2]
    exact ⟨none, rfl, rfl, fun v' e' => by cases e'⟩
def kInK (kvs : List (Str × D)) (neg : Bool) (v : Val) : DE := fun _ ce => match v with
  | .im (.str z) => .ok (.im (.bl ((kvs.lookup z).isSome != neg))) ce
  | _ => .stuck
def kItK (kvs : List (Str × D)) (v : Val) : DE := fun _ ce => match v with
  | .im (.str z) => match kvs.lookup z with
    | some (.str s) => .ok (.im (.str s)) ce
    | some (.int i) => .ok (.im (.int i)) ce
    | _ => .stuck
  | _ => .stuck
section
variable {X : Cx} {Z : Zy} {W : WX} {x : Str} {p pos : Pos} {e : Expr} {f : DE} {kvs : List (Str × D)}
theorem t_inK {d : Addr} {es : Array DictEntry} {n : Nat} {neg : Bool} (gg : Bool → Bool) (hgg : ∀ b, (b != neg) = gg b) (D : KDict X.K X.w d es n) (he : Ents es.toList kvs) {σ : L2.St} {H : Hp} {Q : VK} (h : tE Z W (eUn (kInK kvs neg) f) σ H Q) :
    tOp (fun x y H Q => ∃ (z : Str) (r : Option Value), x = .str z ∧ y = .ref d ∧ PySem.W.nsIn X.K d z = some r ∧ Q (.bl (gg r.isSome)) H) (tE Z W f) (tC (.ref d)) σ H Q :=
  tE_imp (fun x H1 ⟨A, F, sl, ce, v, so, hs, r, p⟩ => by
    unfold kInK at p
    split at p
    · rename_i z
      obtain ⟨r', h1, h2, _⟩ := dct_ns D he z
      exact ⟨z, r', rep_str r, rfl, h1, by rw [h2, ← hgg]; exact fin_flat so p repB⟩
    · exact p.elim) (tE1 h)
theorem dt_notInK (G : DctS X.w X.K X.mg x kvs) (he : PE X e (tE Z W f)) (hg : Gl X x := by rfl) (hdb : (x == ("__debug__" : Str)) = false := by decide) (hm : behindInMarks .NotIn (.Name x p) = false := by rfl) : PT X (.Compare e [.NotIn] [.Name x p] pos) (tT Z W (eUn (kInK kvs true) f)) := by
  obtain ⟨d, es, n, hmg, D, hen⟩ := G.ex
  exact (pt_cmpR (op_notIn_kd D) he (pe_glob (v := .ref d) hg hmg rfl hdb) hm).weak fun σ H Q h => t_inK (fun b => !b) (fun b => by cases b <;> rfl) D hen h
theorem de_itK (G : DctS X.w X.K X.mg x kvs) (he : PE X e (tE Z W f)) (hg : Gl X x := by rfl) (hdb : (x == ("__debug__" : Str)) = false := by decide) (hs : PlainIx e := by exact fun _ _ => rfl) : PE X (.Subscript (.Name x p) e pos) (tE Z W (eUn (kItK kvs) f)) := by
  obtain ⟨d, es, n, hmg, D, hen⟩ := G.ex
  refine (pe_ix (r := rIxD X.K X.w) ix_kdict (pe_glob (v := .ref d) hg hmg rfl hdb) he hs).weak fun σ H Q h => ?_
  exact tE_imp (fun y H1 ⟨A, F, sl, ce, v, so, hs, r, p⟩ => by
    unfold kItK at p
    split at p
    · rename_i z
      obtain ⟨r', h1, h2, h3⟩ := dct_ns D hen z
      split at p
      · rename_i s hl
        obtain ⟨u, rfl, t, rfl⟩ := h3 _ hl
        exact ⟨d, z, .str s, rfl, rep_str r, ⟨es, n, _, D.at_, D.lit, h1, ⟨t, rfl⟩⟩, fin_flat so p repS⟩
      · rename_i s hl
        obtain ⟨u, rfl, t, rfl⟩ := h3 _ hl
        exact ⟨d, z, .int s, rfl, rep_str r, ⟨es, n, _, D.at_, D.lit, h1, ⟨t, rfl⟩⟩, fin_flat so p repI⟩
      · exact p.elim
    · exact p.elim) (tE1 h)
end
end ZZ
set_option Elab.async false
set_option linter.all false
set_option maxRecDepth 100000
namespace PySem.W
open PySem PySem.Spec
end PySem.W
namespace PySem.W
open PySem PySem.Calls PyProof.Rows
end PySem.W
namespace L2
open PySem PySem.Spec
section
variable {X : Cx} {CX : CXT} {k : Nat} {f C p : Addr} {fd : FuncData} {ps : List Str} {sp : Sp} {E : L2.St → XK} {pos : Pos} {a : Expr} {ta : TE}
def tOwn1 (C : Addr) (sp : Sp) (E : L2.St → XK) (ta : TE) : TE := fun σ H Q => ta σ H fun x H1 => ∃ u dx fs, x = .ref u ∧ H1 u = some (.ins C dx fs) ∧ sp [x] H1 Q (E σ)
theorem pe_ownNeg (ha : PE X a ta) (hs : PySem.W.findIn X.K (.ref C) "__neg__" = some (some (.ref f))) (hf : PySem.W.isFn X.K (.ref f) = true) (F : FnOk X.prog X.w X.K X.mg X.base CX k f fd ps sp) (hr : Room k X.A) (hbd : Binds X.K fd ps []) (hx : ∀ σ, PassesAt CX X σ (E σ)) :
    PE X (.UnaryOp .USub a pos) (tOwn1 C sp E ta) := by
  refine ⟨fun pins s σ H Q I h => ?_⟩
  refine wpAny_UnaryOp (thn (ha.run pins s σ H _ I h) fun u s1 ⟨x, H1, I1, rx, c, dx, fs, ex, hc, q⟩ => ?_)
  subst ex
  obtain rfl : u = Value.ref c := rx
  obtain ⟨mA, O1, _⟩ := ins_get I1.hok hc
  obtain ⟨od, J, _⟩ := O1.look
  obtain ⟨m, hF⟩ := I1.fr
  refine PySem.W.ksp_neg hF I1.ok.mod.kin J hs hf ?_
  exact run_fnSD (us := [.ref c]) (vs := [.ref c]) (dvs := []) (ds := []) F hr hbd .nil (hx σ) I1 (.cons rfl .nil) q
end
end L2
namespace ZZ
open PySem PySem.Spec L2
def kOwn1 (c : Nat) (fh : DF) (v : Val) : DE := fun _ ce => if isC c ce v then fh [v] ce else .stuck
/-- the class's own unary operator -/
structure Op1 (K : PySem.W.Frag) (C : Addr) (nm : Str) (f : Addr) : Prop where
  hs : PySem.W.findIn K (.ref C) nm = some (some (.ref f))
  fn : PySem.W.isFn K (.ref f) = true
section
variable {X : Cx} {Z : Zy} {W : WX} {k n : Nat} {fa pa : Addr} {ps : List Str} {fh : DF} {x m nm : Str} {p pos pos2 apos cpos : Pos} {a b e e2 o : Expr} {es : List Expr} {f g : DE} {fs : List DE} {c : Nat}
theorem t_own1 {σ : L2.St} {H : Hp} {Q : VK} (h : tE Z W (eUn (kOwn1 c fh) f) σ H Q) : tOwn1 (Z.cl c) (spD Z.toZx fh 1) (WE W) (tE Z W f) σ H Q :=
  tE_imp (fun x H1 ⟨A, F, sl, ce, v, so, hs, rv, p⟩ => by
    unfold kOwn1 at p
    by_cases hi : isC c ce v = true
    · rw [if_pos hi] at p
      obtain ⟨a, dx, fs, n, rfl, h1, h2⟩ := isC_rd so rv hi
      exact ⟨a, dx, fs, rfl, h1, spD_call (sl := sl) (vs := [v]) so ⟨_, _, rfl, rv, rfl⟩ rfl (by simp [isC_plain hi]) p⟩
    · rw [if_neg hi] at p
      exact p.elim) (tE1 h)
theorem de_ownNeg (O : Op1 X.K (Z.cl c) "__neg__" fa) (G : DOk X.prog X.w X.K X.mg X.base k fa ps (spD Z.toZx fh 1)) (hr : Room k X.A) (tw : TW X W) (ha : PE X a (tE Z W f)) :
    PE X (.UnaryOp .USub a pos) (tE Z W (eUn (kOwn1 c fh) f)) := by
  obtain ⟨fd, F, bd⟩ := G.ex
  exact (pe_ownNeg ha O.hs O.fn F hr bd tw).weak fun σ H Q h => t_own1 h
end
end ZZ
set_option Elab.async false
set_option linter.all false
set_option maxRecDepth 100000
namespace L2
open PySem PySem.Spec PyProof.Rows
/-- a promise that knows the heap's size at the entry -/
structure FnOkN (P : Program) (w : World) (K : PySem.W.Frag) (mg : Str → Option Value) (base : Heap) (CX : CXT) (k : Nat) (f : Addr) (fd : FuncData) (ps : List Str) (sp : Nat → Sp) : Prop where
  len : ∀ n vs H Q E, sp n vs H Q E → vs.length = ps.length
  run : ∀ (A : Around) (outer : List Env) (s : Shared) (H : Hp) (args : Args) (us : List Value) (vs : List V) (Q : VK) (E : XK), Room k A → Env0 P w K mg base A outer s H → BindsTo s fd args (ps.zip us) → Vals vs us →
    sp s.heap.objs.size vs H Q E → codeAny (model P w) A (.call (.ref f) args) (CR CX outer P w H s Q E) s
theorem fn_ofN {CX : CXT} {P : Program} {w : World} {K : PySem.W.Frag} {mg : Str → Option Value} {base : Heap} {k : Nat} {f : Addr} {name qual : Str} {st : Stmt} {fd : FuncData} {N ps : List Str} {sp : Nat → Sp}
    (Fn : Fun K name qual st f fd) (S : FnScope N ps (defScope st)) (len : ∀ n vs H Q E, sp n vs H Q E → vs.length = ps.length)
    (hbody : ∀ (cdv : Value) (A : Around) (outer : List Env) (s : Shared) (H : Hp) (vs : List V) (Q : VK) (E : XK), Room k (A.deeper (envOfC qual (defScope st) s.heap.objs.size f cdv)) → sp s.heap.objs.size vs H Q E →
      ∃ t, PSs (cxOf CX P w K mg base N qual (defScope st) f cdv A outer s H E) (defBody st) t ∧ t { nx := fun _ H' => Q .non H', rt := Q } (start N vs) H) :
    FnOkN P w K mg base CX (k + 1) f fd ps sp := by
  obtain ⟨oc, od, kV, doc, pm, an, cdv, ct, osl, rfl, lk, hcd⟩ := Fn.ex
  refine ⟨len, fun A outer s H args us vs Q E room e0 hb r q => ?_⟩
  have hlen := len _ _ _ _ _ q
  have inK : K.In s.heap := e0.mod.kin.keeps fun b o z => (e0.bs b o z).1
  have noLim : s.heap.NoLimit := e0.mod.nolimit.keeps fun b o z => (e0.bs b o z).1
  refine codeAny_call_function room.depth (inK _ _ lk) rfl S.co S.gen rfl (PySem.W.codeRec_of inK hcd) (hb _ _ _ _ ?_)
  refine wpAny_newFunctionEnv_cells S.kind (fun ⟨n, v⟩ hy => ?_) fun env he s1 x => ?_
  · rcases S.par n (List.of_mem_zip hy).1 with z | z
    · exact .inl z
    · exact .inr ⟨z, PySem.W.cellsFrom_some _ _ _ (.inl z)⟩
  subst he
  refine ⟨noLim.keeps x.toInCall.keep, codeAny_func ?_⟩
  obtain ⟨t, ht, hq⟩ := hbody cdv A outer s H vs Q E (room.deeper _) q
  have J0 := inv_start (CX := CX) (E := E) S room.hd e0 hlen r x
  refine wpAny_mono (ht.run [] s1 (start N vs) H _ J0 hq) (fun fl s' hs => ?_) fun e s' z => z
  cases fl with
  | ret u =>
    obtain ⟨v, σ', H', J, rv, q⟩ := hs
    exact ⟨v, H', J.os, J.bare, J.base, J.hok, rv, q⟩
  | next =>
    obtain ⟨σ', H', J, q⟩ := hs
    exact ⟨V.non, H', J.os, J.bare, J.base, J.hok, rfl, q⟩
  | brk =>
    obtain ⟨_, _, _, q⟩ := hs
    exact q.elim
  | cont =>
    obtain ⟨_, _, _, q⟩ := hs
    exact q.elim
/-- return iter(self.fl) -/
def spIter (K : PySem.W.Frag) (C : Addr) (fl : Str) (n : Nat) : Sp := fun vs H Q _ => ∃ a dx fs l zs, vs = [.ref a] ∧ H a = some (.ins C dx fs) ∧ Cls K C ∧ NoAttr K C fl ∧ fs.lookup fl = some (.ref l) ∧ SqL K H l zs ∧
  ∀ it, H it = none → n ≤ it → Q (.ref it) (upd H it (ItO l it 0))
section
variable {X : Cx} {CX : CXT} {k : Nat} {f C p : Addr} {fd : FuncData} {ps : List Str} {sp : Sp} {E : L2.St → XK} {x m fl : Str} {pos apos pos' : Pos} {a b e o tg : Expr} {es : List Expr} {ta tb : TE} {t : TA}
def iOwnIt (K : PySem.W.Frag) (C : Addr) (fl : Str) (tl : TE) : TI := fun σ H R => tl σ H fun x H1 => ∃ a dx fs l zs, x = .ref a ∧ H1 a = some (.ins C dx fs) ∧ Cls K C ∧ NoAttr K C fl ∧ fs.lookup fl = some (.ref l) ∧ SqL K H1 l zs ∧ R (Itl K l) H1
theorem pi_ownIt (he : PE X e ta) (hs : PySem.W.findIn X.K (.ref C) "__iter__" = some (some (.ref f))) (hf : PySem.W.isFn X.K (.ref f) = true) (F : FnOkN X.prog X.w X.K X.mg X.base CX k f fd ["self"] (spIter X.K C fl)) (hr : Room k X.A) (hbd : Binds X.K fd ["self"] []) (hx : Passes CX X fun _ _ _ => False) :
    PI X tg e (iOwnIt X.K C fl ta) := by
  refine ⟨fun pins s σ H R I h => ?_⟩
  refine thn (he.run pins s σ H _ I h) fun v s1 ⟨x, H1, I1, rx, c, dx, fs, l, zs, ex, hc, hcl, hno, hlk, hsq, q⟩ => ?_
  subst ex
  obtain rfl : v = Value.ref c := rx
  obtain ⟨mA, O1, _⟩ := ins_get I1.hok hc
  obtain ⟨od, J, _⟩ := O1.look
  obtain ⟨m, hF⟩ := I1.fr
  refine PySem.W.owit_iter hF I1.ok.mod.kin J hs hf ?_
  refine wpAny_call (codeAny_mono (F.run X.A X.stack s1 H1 ⟨[.ref c], []⟩ [.ref c] [.ref c] (fun v H' => ∃ it, v = .ref it ∧ H1 it = none ∧ s1.heap.objs.size ≤ it ∧ H' = upd H1 it (ItO l it 0)) (fun _ _ _ => False) hr I1.env0 (hbd s1 [.ref c] I1.kIn rfl) (.cons rfl .nil) ⟨c, dx, fs, l, zs, rfl, hc, hcl, hno, hlk, hsq, fun it h1 h2 => ⟨it, rfl, h1, h2, rfl⟩⟩) fun r s' hq => ?_)
  cases r with
  | error er => exact hx pins σ H1 s1 er s' I1 hq
  | ok fl' =>
    cases fl' with
    | ret u =>
      obtain ⟨v, H', I2, rv, it, rfl, hn, hle, rfl⟩ := I1.after hq
      obtain rfl : u = Value.ref it := rv
      have hi : (upd H1 it (ItO l it 0)) it = some (ItO l it 0) := upd_same
      have eo := itO_get I2 hi
      have hT : s'.TypeIs (.ref it) "list_iterator" := ⟨_, eo, rfl⟩
      have st : s'.heap.IsListIter it l 0 := ⟨_, eo, rfl, rfl⟩
      have hi' := hi
      unfold ItO at hi'
      have I3 := ItX.inv_drop I2 hi'
      have ed : ItX.dropH (upd H1 it (ItO l it 0)) it = H1 := ItX.dropH_upd hn
      have fp := ItX.inv_fp I2 hi (Nat.le_trans I1.sz hle)
      rw [ed] at I3 fp
      show PySem.W.OwitIt _ _ _ _ _ _
      unfold PySem.W.OwitIt
      refine wpAny_specialOf (name := Str.ofString "__next__") hT slot_listiter_next.lookup ?_
      refine ⟨it, [it], _, _, H1, rfl, I3, turn_list l it, st, fun b hb => ?_, q⟩
      have e : b = it := by simpa using hb
      rw [e]
      exact fp
    | next => exact False.elim hq
    | brk => exact False.elim hq
    | cont => exact False.elim hq
end
end L2
namespace L2
open PySem PySem.Spec PyProof.Rows
section
variable {X : Cx} {CX : CXT} {k i : Nat} {f C p : Addr} {fd : FuncData} {ps : List Str} {sp : Sp} {E : L2.St → XK} {x m fl : Str} {pos apos pos' pn : Pos} {a b e o tg : Expr} {es : List Expr} {ta tb : TE} {t : TA}
/-- len(e), e an instance with __len__ -/
def tLenO (C : Addr) (sp : Sp) (ta : TE) : TE := fun σ H Q => ta σ H fun x H1 => ∃ a dx fs, x = .ref a ∧ H1 a = some (.ins C dx fs) ∧ sp [x] H1 (fun v H2 => ∃ n, v = .int n ∧ 0 ≤ n ∧ n < 2 ^ 62 ∧ Q (.int n) H2) fun _ _ _ => False
theorem pe_lenO (he : PE X e ta) (hs : PySem.W.findIn X.K (.ref C) "__len__" = some (some (.ref f))) (hf : PySem.W.isFn X.K (.ref f) = true) (F : FnOk X.prog X.w X.K X.mg X.base CX k f fd ["self"] sp) (hr : Room (k + 1) X.A) (hbd : Binds X.K fd ["self"] []) (hx : Passes CX X fun _ _ _ => False)
    (hg : Gl X "len") (hm : X.mg "len" = none) (hst : starEach [e] X.env = (false, eval e X.env) :: starEach [] X.env := by rfl) (hpl : (backTo pos (starEach [] X.env)).any (·.1) = false := by rfl) :
    PE X (.Call (.Name "len" pn) [e] [] pos) (tLenO C sp ta) := by
  refine ⟨fun pins s σ H Q I h => ?_⟩
  refine wpAny_Call_Name_kw (ld_blt (u := .builtin "len") I hg hm PySem.boot_len ?_ (by decide) (by decide))
  have ha : PA X [e] (tCons ta tNil) := pa_cons he pa_nil hst
  refine PyProof.Rows.callWith_builtin1 (thn (ha.run pos pins s σ H (fun vs H1 => match vs with
    | [x] => ∃ a dx fs, x = .ref a ∧ H1 a = some (.ins C dx fs) ∧ sp [x] H1 (fun v H2 => ∃ n, v = .int n ∧ 0 ≤ n ∧ n < 2 ^ 62 ∧ Q (.int n) H2) fun _ _ _ => False
    | _ => False) I h) fun us s1 ⟨vs, H1, I1, r1, q1⟩ => ?_) hst hpl
  rcases vs with _ | ⟨x, _ | ⟨y, r⟩⟩
  · exact q1.elim
  rotate_left
  · exact q1.elim
  obtain ⟨c, dx, fs, rfl, hc, q⟩ := q1
  obtain ⟨u, rfl, ru⟩ := vals1 r1
  obtain rfl : u = Value.ref c := ru
  obtain ⟨mA, O1, _⟩ := ins_get I1.hok hc
  obtain ⟨od, J, _⟩ := O1.look
  obtain ⟨m, hF⟩ := I1.fr
  refine PySem.W.len_K hF I1.ok.mod.kin J hs hf ?_
  refine wpAny_call (codeAny_mono (F.run X.A.in1 X.stack s1 H1 ⟨[.ref c], []⟩ [.ref c] [.ref c] _ _ hr.in1 I1.env0.in1 (hbd s1 [.ref c] I1.kIn rfl) (.cons rfl .nil) q) fun r s' hq => ?_)
  cases r with
  | error er => exact hx pins σ H1 s1 er s' I1 hq
  | ok fl' =>
    cases fl' with
    | ret u =>
      obtain ⟨v, H', I2, rv, n, rfl, n0, n1, q2⟩ := I1.after hq
      obtain ⟨tk, rfl⟩ := rv
      exact ⟨⟨n0, by omega⟩, .int n, H', I2.tok _, ⟨_, rfl⟩, q2⟩
    | next => exact False.elim hq
    | brk => exact False.elim hq
    | cont => exact False.elim hq
end
end L2
namespace PySem.W
open PySem PySem.Spec PySem.Calls PyProof.Rows
end PySem.W
namespace ZZ
open PySem PySem.Spec L2
/-- an own class's items: its i-th field, a list -/
def itO (c i : Nat) : Val → Option (List D)
  | .im (.ins d ds) => if d = c then (match ds[i]? with
    | some (.lst es) => some es
    | _ => none) else none
  | _ => none
/-- len(e), e an own instance -/
def kLenO (c : Nat) (fh : DF) (v : Val) : DE := fun _ ce => if isC c ce v then (match fh [v] ce with
  | .ok (.im (.int n)) ce' => if Nat.ble n.natAbs 4611686018427387903 && decide (0 ≤ n) then .ok (.im (.int n)) ce' else .stuck
  | _ => .stuck) else .stuck
/-- a def that gives an iterator over a field -/
structure ItOk (P : Program) (w : World) (K : PySem.W.Frag) (mg : Str → Option Value) (base : Heap) (C f : Addr) (fl : Str) : Prop where
  hs : PySem.W.findIn K (.ref C) "__iter__" = some (some (.ref f))
  fn : PySem.W.isFn K (.ref f) = true
  ex : ∃ fd, FnOkN P w K mg base (L2N.CX P w) 1 f fd ["self"] (spIter K C fl) ∧ Binds K fd ["self"] []
theorem pass_none {X : Cx} : Passes (L2N.CX X.prog X.w) X fun _ _ _ => False := fun pins σ H s e s' I h => tw_none σ pins H s e s' I h
section
variable {X : Cx} {Z : Zy} {W : WX} {k n i : Nat} {fa : Addr} {ps : List Str} {fh : DF} {fl : Str} {p pos pn : Pos} {a b e tg : Expr} {f g : DE} {c : Nat}
theorem jok_l2 {Z : Zx} {F : Hp} {K : PySem.W.Frag} {a : Addr} {vs : List V} {ds : List D} (hl : SqL K F a vs) (r : Reps Z F ds vs) : JOk Z F (Itl K a) ds := fun F1 H i e1 e2 => by
  have h2 := e2.seq (e1.seq hl)
  refine ⟨fun h => ⟨vs, h2, by rw [h, r.length]; exact Nat.le_refl _⟩, fun d hd => ?_⟩
  obtain ⟨v, hv, rv⟩ := r.get' hd
  refine ⟨⟨vs, v, h2, hv⟩, fun x H' ⟨eH, hx⟩ => .inl ⟨?_, eH⟩⟩
  have := hx vs h2
  rw [hv] at this
  cases this
  exact rv.mono e1
theorem itN {P : Program} {w : World} {K : PySem.W.Frag} {mg : Str → Option Value} {base : Heap} {name qual : Str} {st : Stmt} {f C : Addr} {fd : FuncData} {fl : Str} {p1 p2 p3 p4 p5 : Pos} (Fn : Fun K name qual st f fd) (S : FnScope ["self"] ["self"] (defScope st)) (hm : mg "iter" = none)
    (hb : defBody st = [.Return (some (.Call (.Name "iter" p1) [.Attribute (.Name "self" p2) fl p3] [] p4)) p5])
    (hg : (defScope st).names.lookup ("iter" : Str) = some .globalImplicit) (hv : (defScope st).names.lookup ("self" : Str) = some .local) : FnOkN P w K mg base (L2N.CX P w) 1 f fd ["self"] (spIter K C fl) := by
  refine fn_ofN Fn S (fun n vs H Q E ⟨a, dx, fs, l, zs, e, _⟩ => by rw [e]; rfl) fun cdv A outer s H vs Q E hr h => ?_
  rw [hb]
  refine ⟨_, pss_one (ps_ret (pe_callB (ItX.call_iterN) (show Gl _ "iter" from hg) hm (by decide +kernel) (pa_cons (pe_fld (pe_var (i := 0) rfl (.inl hv)) rfl) pa_nil rfl))), ?_⟩
  obtain ⟨a, dx, fs, l, zs, rfl, ha, hc, hn, hl, hq, k⟩ := h
  exact ⟨_, rfl, a, C, dx, fs, .ref l, rfl, ha, hc, hn, hl, l, zs, rfl, hq, k⟩
theorem di_own (hK : X.K = Z.K) (he : PE X e (tE Z W f)) (kc : ClsOk X.K Z.toZx c) (na : NoAttr X.K (Z.cl c) fl) (hi : (Z.fl c)[i]? = some fl) (G : ItOk X.prog X.w X.K X.mg X.base (Z.cl c) fa fl) (hr : Room 1 X.A) : PI X tg e (tI Z W (iExp f (itO c i))) := by
  obtain ⟨fd, F, bd⟩ := G.ex
  refine (pi_ownIt he G.hs G.fn F hr bd pass_none).weak fun σ H R h => tE_imp (fun x H1 ⟨A, F, ce, v, ds, so, r, e, q⟩ => ?_) (tI1 h)
  unfold itO at e
  split at e
  · rename_i d xs
    split at e
    · rename_i hd
      subst hd
      split at e
      · rename_i es hx
        cases e
        unfold VRep Rep at r
        obtain ⟨a, dx, fs, rfl, ha, hf, hr2⟩ := r
        obtain ⟨v, hv, rv⟩ := lookup_ix (n := (Z.fl d).length) kc.nd (by rw [List.take_length]; exact hf) hr2 hi hx
        unfold Rep at rv
        obtain ⟨l, vs, rfl, hl, rr⟩ := rv
        exact ⟨a, dx, fs, l, vs, rfl, so.sub _ _ ha, kc.cls, na, hv, SqL.of (so.sub _ _ hl), q _ (jok_l2 (SqL.of hl) rr)⟩
      · cases e
    · cases e
  · cases e
theorem de_lenO (he : PE X e (tE Z W f)) (hs : PySem.W.findIn X.K (.ref (Z.cl c)) "__len__" = some (some (.ref fa))) (hf : PySem.W.isFn X.K (.ref fa) = true) (G : DOk X.prog X.w X.K X.mg X.base k fa ["self"] (spD Z.toZx fh 1)) (hr : Room (k + 1) X.A) (hg : Gl X "len") (hm : X.mg "len" = none)
    (hst : starEach [e] X.env = (false, eval e X.env) :: starEach [] X.env := by rfl) (hpl : (backTo pos (starEach [] X.env)).any (·.1) = false := by rfl) : PE X (.Call (.Name "len" pn) [e] [] pos) (tE Z W (eUn (kLenO c fh) f)) := by
  obtain ⟨fd, F, bd⟩ := G.ex
  refine (pe_lenO (C := Z.cl c) he hs hf F hr bd pass_none hg hm hst hpl).weak fun σ H Q h => tE_imp (fun x H1 ⟨A, F, sl, ce, v, so, hs, rv, p⟩ => ?_) (tE1 h)
  unfold kLenO at p
  by_cases hi : isC c ce v = true
  · rw [if_pos hi] at p
    obtain ⟨a, dx, fs, n, rfl, h1, h2⟩ := isC_rd so rv hi
    refine ⟨a, dx, fs, rfl, h1, spD_call (W := WF) (sl := sl) (σ := σ) (vs := [v]) so ⟨_, _, rfl, rv, rfl⟩ rfl (by simp [isC_plain hi]) ?_⟩
    split at p
    · rename_i n ce' e
      rw [e]
      split at p
      · rename_i hb
        rw [Bool.and_eq_true, Nat.ble_eq, decide_eq_true_eq] at hb
        exact fun A' F' H' x p1 e1 so1 r1 => ⟨n, rep_int r1, hb.2, by omega, by rw [← rep_int r1]; exact p A' F' H' x p1 e1 so1 r1⟩
      · exact p.elim
    · exact p.elim
  · rw [if_neg hi] at p
    exact p.elim
end
end ZZ
namespace L2
open PySem PySem.Spec PyProof.Rows
end L2
namespace ZZ
open PySem PySem.Spec L2
end ZZ
set_option Elab.async false
set_option linter.all false
set_option maxRecDepth 100000
namespace PySem.W
open PySem PySem.Spec PySem.Calls PyProof.Rows
end PySem.W
namespace L2
open PySem PySem.Spec PyProof.Rows NdefX
/-- in the body of the function itself -/
structure PEat (X : Cx) (body : List Stmt) (e : Expr) (t : TE) : Prop where
  run : ∀ (pins : List (Addr × Obj)) (s : Shared) (σ : St) (H : Hp) (Q : VK), Inv X pins σ H s → t σ H Q → _root_.PySem.wpAt (model X.prog X.w) X.A (.func body X.env) (eval e X.env) (EP X pins σ Q) X.xe s
structure PSat (X : Cx) (body : List Stmt) (st : List Stmt) (t : TS) : Prop where
  run : ∀ (pins : List (Addr × Obj)) (s : Shared) (σ : St) (H : Hp) (D : Ends), Inv X pins σ H s → t D σ H → _root_.PySem.wpAt (model X.prog X.w) X.A (.func body X.env) (execs st X.env) (SP X pins D) X.xe s
end L2
namespace L2
open PySem PySem.Spec PyProof.Rows NdefX
end L2
namespace L2
open PySem PySem.Spec PyProof.Rows NdefX
end L2
set_option Elab.async false
set_option linter.all false
set_option maxRecDepth 100000
namespace L2
open PySem PySem.Spec PyProof.Rows NdefX
section
variable {X : Cx} {CX : CXT} {body : List Stmt} {a b e o : Expr} {es rest : List Expr} {ta tb : TE} {t : TA} {u : TS} {st : Stmt} {sts : List Stmt} {ts : TS} {pos apos pn : Pos} {m y : Str} {k : Nat} {E : L2.St → XK}
theorem PSat.weak {t t' : TS} (h : PSat X body sts t) (hw : ∀ D σ H, t' D σ H → t D σ H) : PSat X body sts t' := ⟨fun pins s σ H D I q => h.run pins s σ H D I (hw D σ H q)⟩
theorem PEat.weak {t t' : TE} (h : PEat X body e t) (hw : ∀ σ H Q, t' σ H Q → t σ H Q) : PEat X body e t' := ⟨fun pins s σ H Q I q => h.run pins s σ H Q I (hw σ H Q q)⟩
end
end L2
namespace ZZ
open PySem PySem.Spec L2 NdefX
theorem DOk.mono {P : Program} {w : World} {K : PySem.W.Frag} {mg : Str → Option Value} {base : Heap} {j k : Nat} {a : Addr} {ps : List Str} {sp : Sp} (d : DOk P w K mg base j a ps sp) (h : j ≤ k) : DOk P w K mg base k a ps sp := by
  obtain ⟨fd, F, b⟩ := d.ex
  exact ⟨⟨fd, F.mono h, b⟩, d.kp⟩
end ZZ
set_option Elab.async false
set_option linter.all false
set_option maxRecDepth 100000
namespace ZZ
open PySem PySem.Spec L2 NdefX
end ZZ
set_option Elab.async false
set_option linter.all false
set_option maxRecDepth 100000
namespace L2
open PySem PySem.Spec
end L2
namespace ZZ
open PySem PySem.Spec L2 NdefX
end ZZ
set_option Elab.async false
set_option linter.all false
set_option maxRecDepth 100000
namespace L2
open PySem PySem.Spec PyProof.Rows
theorem DpAll.len {K : PySem.W.Frag} {H : Hp} : ∀ {zs : List V} {ps : List PyData}, DpAll K H zs ps → zs.length = ps.length
  | _, _, .nil => rfl
  | _, _, .cons _ t => by rw [List.length_cons, List.length_cons, DpAll.len t]
end L2
namespace ZZ
open PySem PySem.Spec L2
end ZZ
namespace ZZ
open PySem PySem.Spec L2
end ZZ
set_option Elab.async false
set_option linter.all false
set_option maxRecDepth 100000
namespace L2
open PySem PySem.Spec PyProof.Rows
section
variable {X : Cx} {o i lo hi value : Expr} {pos pos' p2 : Pos} {td ty tv tl th : TE}
/-- o[i] = value -/
def tSetIx (tv td ty : TE) : TS := fun D σ H => tv σ H fun v H1 => td σ H1 fun x H2 => ty σ H2 fun y H3 => rSetL x y v H3 fun H4 => D.nx σ H4
theorem ps_setIx (ho : PE X o td) (hi : PE X i ty) (hv : PE X value tv) (hs : swapsWith value (some (.Subscript o i pos')) pos.line X.env = pure false := by rfl) :
    PS X (.Assign [.Subscript o i pos'] value pos) (tSetIx tv td ty) := by
  refine ⟨fun pins s σ H D I h => ?_⟩
  refine wpAny_Assign_Subscript (thn (hv.run pins s σ H _ I h) fun r s1 ⟨v, H1, I1, rv, q1⟩ => thn (ho.run pins s1 σ H1 _ I1 q1) fun u s2 ⟨x, H2, I2, rx, q2⟩ => thn (hi.run pins s2 σ H2 _ I2 q2) fun iv s3 ⟨y, H3, I3, ry, q3⟩ => ?_) hs
  exact wpAny_mono (set_list pins s3 σ H3 x y v u iv r _ I3 rx ry rv q3) (fun _ s' ⟨H', I', q⟩ => ⟨σ, H', I', q⟩) fun _ _ z => z
end
end L2
namespace ZZ
open PySem PySem.Spec L2
def sSetIx (fo fi fv : DE) : DSt := sExp fv fun v => sExp fo fun u => sExp fi fun i sl ce => match u, v, i with
  | .cell n, .im d, .im (.int k) => match ce[n]? with
    | some (.lst ds) => match ixN ds.length k with
      | some j => .nx sl (ce.set n (.lst (ds.set j d)))
      | none => .stuck
    | _ => .stuck
  | _, _, _ => .stuck
section
variable {X : Cx} {Z : Zy} {W : WX} {k : Nat} {fa : Addr} {ps : List Str} {fh : DF} {p pos pos' p2 : Pos} {a b e o i lo hi value : Expr} {f g fo fi fv fl fhi : DE} {c : Nat}
theorem ds_setIx (ho : PE X o (tE Z W fo)) (hi : PE X i (tE Z W fi)) (hv : PE X value (tE Z W fv)) (hs : swapsWith value (some (.Subscript o i pos')) pos.line X.env = pure false := by rfl) : PS X (.Assign [.Subscript o i pos'] value pos) (tS Z W (sSetIx fo fi fv)) :=
  (ps_setIx ho hi hv hs).weak fun D σ H h => tE_imp (fun v H1 ⟨A, F, sl, ce, vv, so, hs, rv, p⟩ => by
    refine ⟨A, F, sl, ce, so, hs, (PostS.exp so hs p).imp fun x H2 ⟨A1, F1, ce1, vx, p1, e1, so1, rx, q1⟩ => ?_⟩
    have rv1 := rv.mono p1 e1
    have hs1 := hs.mono p1 e1
    refine ⟨A1, F1, sl, ce1, so1, hs1, (PostS.exp so1 hs1 q1).imp fun y H3 ⟨A2, F2, ce2, vy, p2, e2, so2, ry, q2⟩ => ?_⟩
    have rv2 := rv1.mono p2 e2
    have rx2 := rx.mono p2 e2
    have hs2 := hs1.mono p2 e2
    split at q2
    · rename_i n d kk _ _
      split at q2
      · rename_i ds hk
        split at q2
        · rename_i j hj
          obtain ⟨l, ws, hA, rfl, hF, h2, h3⟩ := cell_rd so2 rx2 hk
          refine ⟨l, ws, kk, j, rfl, rep_int ry, h2, by rw [← h3.length]; exact hj, ?_⟩
          exact nxS (so2.write (c := .lst (ds.set j d)) hA hF ⟨hF, _, upd_same, h3.set j rv2⟩) hs2 q2
        · exact q2.elim
      · exact q2.elim
    · exact q2.elim) (tS1 h)
end
end ZZ
set_option Elab.async false
set_option linter.all false
set_option maxRecDepth 100000
namespace L2
open PySem PySem.Spec PyProof.Rows
end L2
namespace ZZ
open PySem PySem.Spec L2
end ZZ
namespace ZZ
open PySem PySem.Spec L2
end ZZ
set_option Elab.async false
set_option linter.all false
set_option maxRecDepth 100000
namespace ZZ
open PySem PySem.Spec L2
end ZZ
set_option Elab.async false
set_option linter.all false
set_option maxRecDepth 100000
namespace ZZ
open PySem PySem.Spec L2
end ZZ
set_option Elab.async false
set_option linter.all false
set_option maxRecDepth 100000
namespace ZZ
open PySem PySem.Spec L2
section
variable {Z : Zx} {A : List Addr} {F : Hp}
theorem VReps.split {Y : Zy} : ∀ (n : Nat) {ds : List Val} {vs : List V}, VReps Y A F ds vs → VReps Y A F (ds.take n) (vs.take n) ∧ VReps Y A F (ds.drop n) (vs.drop n)
  | 0, ds, vs, h => by
    rw [List.take_zero, List.take_zero]
    exact ⟨by unfold VReps; rfl, by simpa using h⟩
  | n + 1, [], vs, h => by
    unfold VReps at h
    subst h
    exact ⟨by unfold VReps; rfl, by unfold VReps; rfl⟩
  | n + 1, d :: ds, vs, h => by
    obtain ⟨x, r, rfl, h1, h2⟩ := h
    obtain ⟨a, b⟩ := VReps.split n h2
    exact ⟨⟨x, r.take n, rfl, h1, a⟩, b⟩
theorem VReps.append {Y : Zy} : ∀ {ds es : List Val} {vs ws : List V}, VReps Y A F ds vs → VReps Y A F es ws → VReps Y A F (ds ++ es) (vs ++ ws)
  | [], es, vs, ws, h, h' => by
    unfold VReps at h
    subst h
    exact h'
  | d :: ds, es, vs, ws, h, h' => by
    obtain ⟨x, r, rfl, h1, h2⟩ := h
    exact ⟨x, r ++ ws, rfl, h1, VReps.append h2 h'⟩
end
end ZZ
set_option Elab.async false
set_option linter.all false
set_option maxRecDepth 100000
set_option maxHeartbeats 2000000
namespace ZZ
open PySem PySem.Spec L2
end ZZ
set_option Elab.async false
set_option linter.all false
set_option maxRecDepth 100000
namespace ZZ
open PySem PySem.Spec L2
end ZZ
set_option Elab.async false
set_option linter.all false
set_option maxRecDepth 100000
namespace ZH
open PySem PySem.Spec PyProof.Rows L2 ZZ
theorem valD_rel {u : Value} {d : D} (h : valD u = some d) : relD d u := by
  unfold valD at h
  split at h
  · cases h; exact ⟨_, rfl⟩
  · cases h; exact ⟨_, rfl⟩
  · cases h; rfl
  · cases h
theorem tb_lit {P : Params} : ∀ {l : List DictEntry} {ks : List (Str × D)}, l.map enO = ks.map (enV P) → PySem.W.KeysLit P l ∧ Ents l ks
  | [], [], _ => ⟨trivial, trivial⟩
  | [], _ :: _, h => by cases h
  | _ :: _, [], h => by cases h
  | e :: r, k :: ks, h => by
    have h1 : enO e :: r.map enO = enV P k :: ks.map (enV P) := h
    injection h1 with h2 h3
    obtain ⟨q1, q2⟩ := tb_lit h3
    unfold enO enV at h2
    split at h2
    · rename_i x t q
      simp only [Option.some.injEq, Prod.mk.injEq] at h2
      obtain ⟨e1, e2, e3⟩ := h2
      exact ⟨⟨⟨x, t, q, by rw [e2, e1]⟩, q1⟩, ⟨t, by rw [q, e1]⟩, valD_rel e3, q2⟩
    · cases h2
theorem tb_ok {K : Fr} {w : World} {a : Addr} {ks : List (Str × D)} (h : tbO K a = some (ks.map (enV w.params))) : ∃ es n, KDict K w a es n ∧ Ents es.toList ks := by
  unfold tbO at h
  cases q : K.lookup a with
  | none =>
    rw [q] at h
    cases h
  | some o =>
    obtain ⟨oc, od, dt, osl⟩ := o
    rw [q] at h
    cases oc with
    | type c =>
      cases od with
      | none =>
        cases dt with
        | dict es n =>
          have h1 : (match decide (c = "dict") && (osl.isEmpty && !(a == sysModules)) with
            | true => some (es.toList.map enO)
            | false => none) = some (ks.map (enV w.params)) := h
          cases z : decide (c = "dict") && (osl.isEmpty && !(a == sysModules)) with
          | false =>
            rw [z] at h1
            cases h1
          | true =>
            rw [z] at h1
            obtain ⟨z1, z2⟩ := ba z
            obtain ⟨z3, z4⟩ := ba z2
            have e1 : c = "dict" := of_decide_eq_true z1
            have e2 : osl = #[] := Array.isEmpty_iff.mp z3
            have e3 : (a == sysModules) = false := by
              cases y : a == sysModules with
              | false => rfl
              | true =>
                rw [y] at z4
                cases z4
            subst e1 e2
            obtain ⟨l1, l2⟩ := tb_lit (Option.some.inj h1)
            exact ⟨es, n, ⟨q, l1, e3⟩, l2⟩
        | _ => cases h
      | some b => cases dt <;> cases h
    | _ => cases od <;> cases dt <;> cases h
section
variable {bs : Bs} {fn : List DefZ} {tb : List Tab} {w : World} {K : Fr}
theorem SaysZ.tab (c : SaysZ bs fn tb w K) {i : Nat} {t : Tab} (h : tb[i]? = some t) : ∃ es n, KDict K w t.1 es n ∧ Ents es.toList t.2 := by
  have e : tb.map (fun t => tbO K t.1) = tb.map fun t => some (t.2.map (enV w.params)) := congrArg (fun z : AlZ => z.2.2) c
  have e2 : (tb.map fun t => tbO K t.1)[i]? = (tb.map fun t => some (t.2.map (enV w.params)))[i]? := by rw [e]
  rw [List.getElem?_map, List.getElem?_map, h] at e2
  exact tb_ok (Option.some.inj e2)
end
section
variable {K : Fr}
theorem fun_z {d : DefZ} (h : FnAt K d) (h1 : d.clo = []) (h2 : d.dfl = none) : ∃ fd, Fun K d.name d.qual d.st d.a fd := by
  obtain ⟨oc, od, doc, pm, an, ct, osl, q, c, kp⟩ := h
  rw [h1, h2] at q
  exact ⟨_, fun_mk (st := d.st) q c kp⟩
theorem excB_ok {C : Addr} (h : excB K C = true) : ∃ nm q N bs bm sn sub ab col dd k0 k1 k2 k3 k5, K.lookup C = some (excClassObj nm q C N bs bm true sn sub ab col dd k0 k1 k2 k3 k5 "ValueError.__new__") ∧ PySem.HandSPX.refsVE bm = true := by
  unfold excB at h
  split at h
  · rename_i t dd cd sl e
    obtain ⟨h1, h⟩ := ba h
    obtain ⟨h2, h⟩ := ba h
    obtain ⟨h3, h⟩ := ba h
    obtain ⟨h4, h5⟩ := ba h
    obtain ⟨nm, bs, mro, N, q, hd, sn, sub, ab, col, hdel⟩ := cd
    have e1 : t = "type" := of_decide_eq_true h1
    have e2 : hd = true := h2
    have e3 : hdel = false := by simpa using h3
    subst e1 e2 e3
    cases mro with
    | nil => cases h4
    | cons m bm =>
      cases m with
      | ref c =>
        obtain ⟨h6, h7⟩ := ba h4
        have e4 : c = C := of_decide_eq_true h6
        subst e4
        split at h5
        · rename_i k0 k1 k2 k3 id k5 e5
          have e6 : id = "ValueError.__new__" := of_decide_eq_true h5
          subst e6
          obtain ⟨l⟩ := sl
          have e7 : l = [k0, k1, k2, k3, some (.builtin "ValueError.__new__"), k5] := e5
          subst e7
          exact ⟨nm, q, N, bs, bm, sn, sub, ab, col, dd, k0, k1, k2, k3, k5, e, h7⟩
        · cases h5
      | _ => cases h4
  · cases h
theorem law_binds {d : DefZ} {fd : FuncData} {x : Str} (F : Fun K d.name d.qual d.st d.a fd) (hb : ∀ (kV doc pm : Value) (an : Option Addr) (cdv ct : Value) (s : Shared) (v : Value), BindsTo s (PySem.W.fnOf d.name d.qual (defArgs d.st) (defBody d.st) (defScope d.st) .none kV doc pm an cdv ct) ⟨[v], []⟩ [(x, v)]) :
    ∀ (s : Shared) (v : Value), BindsTo s fd ⟨[v], []⟩ [(x, v)] := by
  obtain ⟨oc, od, kV, doc, pm, an, cdv, ct, osl, rfl, lk, hcd⟩ := F.ex
  exact fun s v => hb _ _ _ _ _ _ s v
end
/-- a law's end: the written part is what the hook tells -/
theorem walk_ofZ {l : PySem.W.OpenLaw} {n k : Nat} {q : Program} {loose : List Str} {XP : (Str → Option Value) → Heap → Prop} {YP : World → Heap → Prop} {d : DefRec} {CX : World → CXT} {x : Str}
    (hn : l.most = some n) (hn2 : n ≤ sizeLine) (hdf : d.params.defaults = []) (hr : Room k callerA)
    (F : ∀ (w : World) (mg : Str → Option Value) (fa : Addr) (h : Heap), YP w h → h.Ns mainGlobals mg → mg d.name = some (.ref fa) →
      ∃ (K : Fr) (fd : FuncData) (sp : Sp), K.In h ∧ (∀ (s : Shared) (u : Value), BindsTo s fd ⟨[u], []⟩ [(x, u)]) ∧ (∀ (H : Hp) (a : Addr) (ns : List Int), ns.length ≤ n → Only H → SqL K H a (ns.map V.int) → sp [.ref a] H (fun v _ => v = .bl true) fun _ _ _ => False) ∧
        ∀ base : Heap, K.In base → base.Ns mainGlobals mg → FnOk l.prog w K mg base (CX w) k fa fd [x] sp)
    (E : ∀ (w : World) (H : Hp) (s : Shared) (e : Value) (s' : Shared), CX w [] H s (fun _ _ _ => False) e s' → False) :
    PySem.W.WalkO q loose XP YP l.row.toRowW d [] (fun f vs => PySem.call f vs) := by
  refine Att.attach_call hn hdf fun w s0 s1 mg mb fa o pm cd doc a vs ns G Y h1 h2 h3 hm h4 h5 hl hS => ?_
  obtain ⟨K, fd, sp, KX, hb, hs, hF⟩ := F w mg fa _ Y G.T.g hm
  exact law_call KX G.T.g G.T.b G.T.builtins G.T.nolimit hS h4 h5 (Nat.le_trans hl hn2) hr hF hb (fun H hO hq => hs H a ns hl hO hq) fun H e s' => E w H s1 e s'
end ZH
set_option Elab.async false
set_option linter.all false
set_option maxRecDepth 100000
namespace L2
open PySem PySem.Spec PyProof.Rows ZZ
/-- the dict at a -/
def DcAt (X : Cx) (H : Hp) (a : Addr) (xs : List (NestedKey × Value × Value)) : Prop :=
  (a == sysModules) = false ∧ xs.length ≤ sizeLine ∧ (∃ ep, H a = some (.ext (rawV X.w a xs ep))) ∧ ∀ pins σ s, Inv X pins σ H s → DictV X.w s.heap a xs
section
variable {X : Cx} {pins : List (Addr × Obj)} {σ : L2.St} {H : Hp} {s : Shared} {a : Addr} {xs : List (NestedKey × Value × Value)} {k : NestedKey} {u : Value}
theorem DcAt.none (g : DcAt X H a xs) : ∃ o, H a = some o := let ⟨_, _, ⟨ep, e⟩, _⟩ := g; ⟨_, e⟩
end
end L2
set_option Elab.async false
set_option linter.all false
set_option maxRecDepth 100000
namespace L2
open PySem PySem.Spec PyProof.Rows ZZ
end L2
namespace ZZ
open PySem PySem.Spec L2
end ZZ
set_option Elab.async false
set_option linter.all false
set_option maxRecDepth 100000
namespace ZZ
open PySem PySem.Spec L2
end ZZ
set_option Elab.async false
set_option linter.all false
set_option maxRecDepth 100000
namespace ZZ
open PySem PySem.Spec L2
end ZZ
set_option Elab.async false
set_option linter.all false
set_option maxRecDepth 100000
namespace RZ
open PySem PySem.Spec PyProof.Rows L2
end RZ
namespace ZZ
open PySem PySem.Spec L2
end ZZ
set_option Elab.async false
set_option linter.all false
set_option maxRecDepth 100000
namespace PySem.W
open PySem PySem.Calls PyProof.Rows
end PySem.W
namespace StX
open PySem PySem.Spec PyProof.Rows L2
/-- a def called with positional values and keywords ks -/
def FnRK (P : Program) (w : World) (K : PySem.W.Frag) (mg : Str → Option Value) (base : Heap) (CX : CXT) (k : Nat) (f : Addr) (ks : List Str) (sp : List V → Sp) : Prop :=
  ∀ (A : Around) (outer : List Env) (s : Shared) (H : Hp) (us ws : List Value) (vs zs : List V) (Q : VK) (E : XK), Room k A → Env0 P w K mg base A outer s H → Vals vs us → Vals zs ws → ws.length = ks.length → sp zs vs H Q E →
    codeAny (model P w) A (.call (.ref f) ⟨us, ks.zip ws⟩) (CR CX outer P w H s Q E) s
section
variable {CX : CXT} {P : Program} {w : World} {K : PySem.W.Frag} {mg : Str → Option Value} {base : Heap} {k n : Nat} {f : Addr} {name qual : Str} {params : Arguments} {body : List Stmt} {scope : Scope} {dV kV doc pm cdv ct oc : Value} {an od : Option Addr}
  {osl : Array (Option Value)} {N ps ks : List Str} {sp : Sp}
theorem FnRK.mono {sp : List V → Sp} {j : Nat} (F : FnRK P w K mg base CX j f ks sp) (h : j ≤ k) : FnRK P w K mg base CX k f ks sp := fun A outer s H us ws vs zs Q E hr => F A outer s H us ws vs zs Q E (hr.mono h)
end
end StX
namespace ZZ
open PySem PySem.Spec L2
end ZZ
namespace ZH
open PySem PySem.Spec L2 ZZ
end ZH
set_option Elab.async false
set_option linter.all false
set_option maxRecDepth 100000
namespace PySem
open Sem (wp)
end PySem
namespace L2
open PySem PySem.Spec PyProof.Rows ZZ
end L2
namespace ZZ
open PySem PySem.Spec L2
end ZZ
set_option Elab.async false
set_option linter.all false
set_option maxRecDepth 100000
namespace RZ
open PySem PySem.Spec PyProof.Rows L2 ZZ
end RZ
namespace ZZ
open PySem PySem.Spec L2 RZ
end ZZ
set_option Elab.async false
set_option linter.all false
set_option maxRecDepth 100000
namespace L2
open PySem PySem.Spec PyProof.Rows L2H
end L2
namespace ZZ
open PySem PySem.Spec L2
end ZZ
set_option Elab.async false
set_option linter.all false
set_option maxRecDepth 100000
namespace L2
open PySem PySem.Spec PyProof.Rows
end L2
namespace ZZ
open PySem PySem.Spec L2
def itLT : Val → Option (List D)
  | .im (.lst ds) => some ds
  | .im (.tup ds) => some ds
  | _ => none
end ZZ
namespace L2
open PySem PySem.Spec PyProof.Rows
end L2
namespace ZZ
open PySem PySem.Spec L2
end ZZ
set_option Elab.async false
set_option linter.all false
set_option maxRecDepth 100000
namespace ZZ
open PySem PySem.Spec L2
end ZZ
set_option Elab.async false
set_option linter.all false
set_option maxRecDepth 100000
namespace ZZ
open PySem PySem.Spec L2
end ZZ
set_option Elab.async false
set_option linter.all false
set_option maxRecDepth 100000
namespace ZZ
open PySem PySem.Spec L2
end ZZ
set_option Elab.async false
set_option linter.all false
set_option maxRecDepth 100000
namespace L2
open PySem PySem.Spec PyProof.Rows
end L2
namespace ZZ
open PySem PySem.Spec L2
end ZZ
set_option Elab.async false
set_option linter.all false
set_option maxRecDepth 100000
namespace StX
open PySem PySem.Spec PyProof.Rows L2
/-- t looks one name up in the dict at D and goes on as t' -/
def KwLook {α : Type} (D : Addr) (nm : Str) (u : Value) (t t' : Sem α) : Prop := ∃ (β γ : Type) (k1 : Option Value → Sem β) (k2 : β → Sem γ) (k3 : γ → Sem α) (a : β), t = ((nsGet D nm >>= k1) >>= k2) >>= k3 ∧ k1 (some u) = pure a ∧ (k2 a >>= k3) = t'
theorem KwLook.run {α : Type} {M : Model} {A : Around} {K : PySem.W.Frag} {s : Shared} {D : Addr} {nm : Str} {u : Value} {t t' : Sem α} {Q : α → Shared → Prop} {E : Value → Shared → Prop} (X : K.In s.heap) (hu : PySem.W.nsIn K D nm = some (some u)) (h : KwLook D nm u t t') (q : wpAny M A t' Q E s) : wpAny M A t Q E s := by
  obtain ⟨β, γ, k1, k2, k3, a, e1, e2, e3⟩ := h
  have l1 : PySem.W.Looks M s.heap (nsGet D nm >>= k1) a := (PySem.W.looks_nsIn X hu).andThen (PySem.W.Looks.of_pure e2)
  rw [e1, bind_assoc]
  exact wpAny_bind (l1.here (e3 ▸ q))
end StX
namespace ZZ
open PySem PySem.Spec L2 ZH
/-- such a def, called without the keyword: dv stands behind the first n -/
structure DOkSD (P : Program) (w : World) (K : PySem.W.Frag) (mg : Str → Option Value) (base : Heap) (Z : Zx) (k : Nat) (f : Addr) (n : Nat) (dv : D) (fh : DF) : Prop where
  F : FnR P w K mg base (L2N.CX P w) k f fun vs H Q E => ∃ A F ce ds, SO Z A F ce H ∧ VReps Z.z A F ds vs ∧ PostE Z.z A F (fun c d _ H => E c d H) [] Q (fh (ds.take n ++ [.im dv] ++ ds.drop n) ce)
  kp : PySem.W.keepIn K (.ref f) = true
theorem DOkSD.mono {P w K mg base Z k j f n dv fh} (G : DOkSD P w K mg base Z k f n dv fh) (h : k ≤ j) : DOkSD P w K mg base Z j f n dv fh := ⟨fun A outer s H us vs Q E hr => G.F A outer s H us vs Q E (hr.mono h), G.kp⟩
end ZZ
namespace ZH
open PySem PySem.Spec L2 ZZ
end ZH
set_option Elab.async false
set_option linter.all false
set_option maxRecDepth 100000
namespace ZZ
open PySem PySem.Spec L2 PyProof.Rows
/-- a denotation of what yields: the rows so far go in and out -/
def DGn : Type := List D → Sl → List Cell → List D × Out
def gPl (f : DSt) : DGn := fun ds sl ce => (ds, f sl ce)
def gNil : DGn := fun ds sl ce => (ds, .nx sl ce)
def gSeq (f g : DGn) : DGn := fun ds sl ce => match f ds sl ce with
  | (ds', .nx sl' ce') => g ds' sl' ce'
  | r => r
def gIf (c : DE) (f g : DGn) : DGn := fun ds sl ce => match c sl ce with
  | .ok (.im (.bl b)) ce' => if b then f ds sl ce' else g ds sl ce'
  | .ok _ _ => (ds, .stuck)
  | .exc x es ce' => (ds, .exc x es sl ce')
  | .stuck => (ds, .stuck)
/-- what is wanted behind it -/
def PostG (Z : Zy) (A : List Addr) (F : Hp) (W : WX) (D : GEnds) (r : List ZZ.D × Out) : Prop := ∀ A0 F0 ys0, A <+: A0 → Same F F0 → Reps Z.toZx F0 r.1 ys0 → match r.2 with
  | .nx sl ce => ∀ A' F' H' σ', A0 <+: A' → Same F0 F' → SO Z.toZx A' F' ce H' → SL Z A' F' sl σ' → D.nx ys0 σ' H'
  | .bk sl ce => ∀ A' F' H' σ', A0 <+: A' → Same F0 F' → SO Z.toZx A' F' ce H' → SL Z A' F' sl σ' → D.bk ys0 σ' H'
  | .ct sl ce => ∀ A' F' H' σ', A0 <+: A' → Same F0 F' → SO Z.toZx A' F' ce H' → SL Z A' F' sl σ' → D.ct ys0 σ' H'
  | .rt v ce => ∀ A' F' H' x, A0 <+: A' → Same F0 F' → SO Z.toZx A' F' ce H' → VRep Z A' F' v x → D.rt ys0 x H'
  | .exc c es sl ce => ∀ A' F' H' σ' dx, A0 <+: A' → Same F0 F' → SO Z.toZx A' F' ce H' → SL Z A' F' sl σ' → ExcOk Z.toZx F' c es dx → W (.ref (Z.cl c)) dx σ' H'
  | .stuck => False
theorem PostG.mono {Z : Zy} {A A' : List Addr} {F F' : Hp} {W : WX} {D : GEnds} {r : List ZZ.D × Out} (p : A <+: A') (e : Same F F') (h : PostG Z A F W D r) : PostG Z A' F' W D r :=
  fun A0 F0 ys0 p0 e0 r0 => h A0 F0 ys0 (p.trans p0) (e.trans e0) r0
/-- a plain outcome, at the rows ys -/
theorem PostG.at {Z : Zy} {A : List Addr} {F : Hp} {W : WX} {D : GEnds} {ds : List ZZ.D} {o : Out} {ys : List V} (h : PostG Z A F W D (ds, o)) (r : Reps Z.toZx F ds ys) : PostS Z A F W (D.at ys) o := by
  have q := h A F ys (List.prefix_refl _) (Same.refl _) r
  cases o <;> exact q
end ZZ
set_option Elab.async false
set_option linter.all false
set_option maxRecDepth 100000
set_option maxHeartbeats 1000000
namespace ZZ
open PySem PySem.Spec L2 PyProof.Rows GenW
section
variable {P : Program} {w : World} {K : PySem.W.Frag} {mg : Str → Option Value} {base : Heap} {k : Nat} {f : Addr} {qual : Str} {body : List Stmt} {scope : Scope} {cdv : Value} {N ps : List Str}
/-- no exception -/
abbrev EF : XK := fun _ _ _ => False
end
/-- what the call of a generator def gives: all that is handed out, the store behind it -/
abbrev GF : Type := List Val → List Cell → Option (List D × List Cell)
def gEnd (n : Nat) : List D × Out → Option (List D × List Cell)
  | (ds, .nx _ ce) => some (ds, ce.take n)
  | (ds, .rt (.im .non) ce) => some (ds, ce.take n)
  | _ => none
def mkG (nsl : Nat) (body : DGn) : GF := fun vs ce => gEnd ce.length (body [] (vs.map some ++ List.replicate (nsl - vs.length) none) ce)
theorem gEnd_post {Z : Zx} {A : List Addr} {F : Hp} {ce ce2 : List Cell} {out : List D} {r : List D × Out} {W : WX} {Q : List V → Hp → Prop} (hl : A.length = ce.length) (e : gEnd ce.length r = some (out, ce2))
    (hq : ∀ F' J ys, Same F F' → SO Z A F' ce2 J → Reps Z F' out ys → Q ys J) : PostG Z.z A F W { nx := fun l _ J => Q l J, rt := fun l v J => v = .non ∧ Q l J } r := by
  intro A0 F0 ys0 p0 e0 r0
  obtain ⟨ds, o⟩ := r
  cases o with
  | nx sl ce' =>
    cases e
    exact fun A' F' J σ' p' e' so' _ => hq F' J ys0 (e0.trans e') (so'.cut (p0.trans p') hl) (r0.mono e')
  | rt v ce' =>
    cases v with
    | im d =>
      cases d with
      | non =>
        cases e
        intro A' F' J x p' e' so' rx
        exact ⟨by simpa [VRep, Rep] using rx, hq F' J ys0 (e0.trans e') (so'.cut (p0.trans p') hl) (r0.mono e')⟩
      | _ => cases e
    | cell k => cases e
    | exn c es => cases e
  | bk sl ce' => cases e
  | ct sl ce' => cases e
  | exc c es sl ce' => cases e
  | stuck => cases e
end ZZ
set_option Elab.async false
set_option linter.all false
set_option maxRecDepth 100000
namespace ZZ
open PySem PySem.Spec L2
end ZZ
set_option Elab.async false
set_option linter.all false
set_option maxRecDepth 100000
namespace ZZ
open PySem PySem.Spec L2
end ZZ
set_option Elab.async false
set_option linter.all false
set_option maxRecDepth 100000
namespace ZZ
open PySem PySem.Spec L2 PyProof.Rows GenW
/-- a generator that has handed out a value -/
def sleeps : GenState → Prop
  | .suspended .. => True
  | _ => False
/-- all that stands in H stands in H' -/
def UpH (H H' : Hp) : Prop := ∀ b u, H b = some u → H' b = some u
theorem UpH.refl (H : Hp) : UpH H H := fun _ _ h => h
/-- what is wanted; yl: at a value that is handed out -/
structure YEnds where
  nx : List V → L2.St → Hp → Prop
  rt : List V → VK
  bk : List V → L2.St → Hp → Prop := fun _ _ _ => False
  ct : List V → L2.St → Hp → Prop := fun _ _ _ => False
  yl : List V → V → Hp → (Hp → Prop) → Prop
abbrev TYn := YEnds → List V → L2.St → Hp → Prop
def YEnds.at (D : YEnds) (ys : List V) : Ends where
  nx := D.nx ys
  rt := D.rt ys
  bk := D.bk ys
  ct := D.ct ys
/-- what the consumer holds: the addresses, what the heap at the waking says of the values handed out -/
structure LZ where
  l : List Addr
  rw : List V → Heap → Prop
instance : Coe LZ (List Addr) := ⟨LZ.l⟩
instance : Membership Addr LZ := ⟨fun L b => b ∈ L.l⟩
/-- running: what the consumer holds at the addresses L stands as at s0 -/
def Gz (X : Cx) (L : LZ) (s0 : Shared) (ip : List (Addr × Obj)) (ys : List V) (σ : L2.St) (H : Hp) (s : Shared) : Prop := Inv X (pinsAt L.l s0.heap ++ ip) σ H s ∧ ((∀ b ∈ L.l, ∃ o, s0.heap.get? b = some o) ∧ L.rw ys s0.heap)
/-- a value goes out; woken, the heap is one that the generator can go on with (Vw) -/
def YPz (X : Cx) (L : LZ) (yl : List V → V → Hp → (Hp → Prop) → Prop) : Protocol := fun m s0 v s kap =>
  ∃ ys x ip σ H Vw, m + 1 + ys.length = sizeLine ∧ RelV x v ∧ Gz X L s0 ip ys σ H s ∧ (∀ p ∈ ip, X.s_0.heap.objs.size ≤ p.1 ∧ p.1 ∉ L) ∧ yl ys x H Vw ∧ ∀ H' s', Vw H' → Gz X L s' ip (ys ++ [x]) σ H' s' → kap (.send .none) s' ∧ kap (.send (.bool true)) s'
def REz (X : Cx) (L : LZ) (Q : List V → VK) (B : Value → Shared → Prop) : GenEnd := fun m s0 r s => match r with
  | .error e => B e s
  | .ok (.ret u) => ∃ ys v ip σ H, m + ys.length = sizeLine ∧ Gz X L s0 ip ys σ H s ∧ RelV v u ∧ Q ys v H
  | .ok _ => False
def FEz (X : Cx) (L : LZ) (s0 : Shared) (ip : List (Addr × Obj)) (D : YEnds) (ys : List V) (s : Shared) : Flow → Prop
  | .next => ∃ σ H, Gz X L s0 ip ys σ H s ∧ D.nx ys σ H
  | .brk => ∃ σ H, Gz X L s0 ip ys σ H s ∧ D.bk ys σ H
  | .cont => ∃ σ H, Gz X L s0 ip ys σ H s ∧ D.ct ys σ H
  | .ret u => ∃ v σ H, Gz X L s0 ip ys σ H s ∧ RelV v u ∧ D.rt ys v H
/-- where the code stands -/
structure WCz (X : Cx) (L : LZ) (ip : List (Addr × Obj)) (B : Around) (c : Code) (fs : List Frame) (g0 : Bool → Bool) : Prop where
  over : B.over c fs = X.A
  split : splitAtGen fs = none
  guard : fs.any Frame.guarded = false
  gd : g0 false = false
  young : ∀ p ∈ ip, X.s_0.heap.objs.size ≤ p.1 ∧ p.1 ∉ L
/-- what follows -/
structure WKz (X : Cx) (L : LZ) (ip : List (Addr × Obj)) (B : Around) (Re : GenEnd) (c : Code) (fs : List Frame) (kf : Flow → Sem PySem.Fin) (jf : Value → Sem PySem.Fin) (D : YEnds) : Prop where
  ok : ∀ (m : Nat) (ys : List V) (s0 s : Shared) (f : Flow), m + ys.length = sizeLine → FEz X L s0 ip D ys s f → Seg (model X.prog X.w) B Re (YPz X L D.yl) m s0 c (kf f) fs s
  exc : ∀ (m : Nat) (s0 : Shared) (x : Value) (s : Shared), X.xe x s → Seg (model X.prog X.w) B Re (YPz X L D.yl) m s0 c (jf x) fs s
/-- a code's promise -/
def RunZ (X : Cx) (t : TYn) (code : Sem Flow) : Prop :=
  ∀ (B : Around) (L : LZ) (ip : List (Addr × Obj)) (Re : GenEnd) (m : Nat) (ys : List V) (s0 : Shared) (c : Code) (fs : List Frame) (kf : Flow → Sem PySem.Fin) (jf : Value → Sem PySem.Fin) (g0 : Bool → Bool) (l0 : List Value → List Value) (s : Shared) (σ : L2.St) (H : Hp) (D : YEnds),
    WCz X L ip B c fs g0 → m + ys.length = sizeLine → WKz X L ip B Re c fs kf jf D → Gz X L s0 ip ys σ H s → t D ys σ H → Seg (model X.prog X.w) B Re (YPz X L D.yl) m s0 c (code.wrap kf jf g0 l0) fs s
structure GZ (X : Cx) (st : Stmt) (t : TYn) : Prop where
  run : RunZ X t (exec st X.env)
structure GZs (X : Cx) (sts : List Stmt) (t : TYn) : Prop where
  run : RunZ X t (execs sts X.env)
section
variable {X : Cx} {st : Stmt} {sts sts' : List Stmt}
theorem fe_sp {L : LZ} {s0 s : Shared} {ip : List (Addr × Obj)} {D : YEnds} {ys : List V} {f : Flow} (lv : (∀ b ∈ L.l, ∃ o, s0.heap.get? b = some o) ∧ L.rw ys s0.heap) (h : SP X (pinsAt L.l s0.heap ++ ip) (D.at ys) f s) : FEz X L s0 ip D ys s f := by
  cases f with
  | next => obtain ⟨σ, H, I, q⟩ := h; exact ⟨σ, H, ⟨I, lv⟩, q⟩
  | brk => obtain ⟨σ, H, I, q⟩ := h; exact ⟨σ, H, ⟨I, lv⟩, q⟩
  | cont => obtain ⟨σ, H, I, q⟩ := h; exact ⟨σ, H, ⟨I, lv⟩, q⟩
  | ret u => obtain ⟨v, σ, H, I, r, q⟩ := h; exact ⟨v, σ, H, ⟨I, lv⟩, r, q⟩
def tZPl (t : TS) : TYn := fun D ys σ H => t (D.at ys) σ H
theorem gz_ps {t : TS} (h : PS X st t) : GZ X st (tZPl t) := by
  refine ⟨fun B L ip Re m ys s0 c fs kf jf g0 l0 s σ H D w hm k hI ht => seg_wrap ?_⟩
  rw [w.over]
  exact wpAny_mono (h.run _ s σ H (D.at ys) hI.1 ht) (fun f s1 q => k.ok m ys s0 s1 f hm (fe_sp hI.2 q)) fun x s1 q => k.exc m s0 x s1 q
theorem gzs_nil : GZs X [] fun D ys σ H => D.nx ys σ H :=
  ⟨fun B L ip Re m ys s0 c fs kf jf g0 l0 s σ H D w hm k hI ht => seg_execs_nil (k.ok m ys s0 s .next hm ⟨σ, H, hI, ht⟩)⟩
theorem gzs_cons {t u : TYn} (a : GZ X st t) (b : GZs X sts u) : GZs X (st :: sts) fun D ys σ H => t { D with nx := fun zs τ J => u D zs τ J } ys σ H := by
  refine ⟨fun B L ip Re m ys s0 c fs kf jf g0 l0 s σ H D w hm k hI ht => seg_execs_cons ?_⟩
  refine a.run B L ip Re m ys s0 c fs _ jf g0 l0 s σ H { D with nx := fun zs τ J => u D zs τ J } w hm ⟨fun i zs s1 s2 f hi q => ?_, k.exc⟩ hI ht
  cases f with
  | next =>
    obtain ⟨τ, J, IJ, z⟩ := q
    exact b.run B L ip Re i zs s1 c fs kf jf g0 l0 s2 τ J D w hi k IJ z
  | brk => exact k.ok i zs s1 s2 .brk hi q
  | cont => exact k.ok i zs s1 s2 .cont hi q
  | ret u => exact k.ok i zs s1 s2 (.ret u) hi q
def tZIf (tc : TT) (t u : TYn) : TYn := fun D ys σ H => tc σ H fun b J => if b = true then t D ys σ J else u D ys σ J
theorem gz_if {test : Expr} {pos : Pos} {tc : TT} {t u : TYn} (hc : PT X test tc) (hp : GZs X sts t) (hq : GZs X sts' u) : GZ X (.If test sts sts' pos) (tZIf tc t u) := by
  refine ⟨fun B L ip Re m ys s0 c fs kf jf g0 l0 s σ H D w hm k hI ht => ?_⟩
  rw [exec_If]
  refine seg_at (seg_bind_wrap ?_)
  rw [w.over]
  refine wpAny_pure (seg_bind_wrap ?_)
  rw [w.over]
  refine wpAny_mono (hc.run _ s σ H _ hI.1 ht) (fun b s1 ⟨J, IJ, z⟩ => ?_) fun x s1 q => k.exc m s0 x s1 q
  cases b with
  | true => exact hp.run B L ip Re m ys s0 c fs kf jf g0 l0 s1 σ J D w hm k ⟨IJ, hI.2⟩ z
  | false => exact hq.run B L ip Re m ys s0 c fs kf jf g0 l0 s1 σ J D w hm k ⟨IJ, hI.2⟩ z
/-- a value is handed out -/
def tZY (te : TE) : TYn := fun D ys σ H => ys.length < sizeLine ∧ te σ H fun x J => ∃ Vw, D.yl ys x J Vw ∧ ∀ J', Vw J' → D.nx (ys ++ [x]) σ J'
theorem gz_yield {e : Expr} {yp pos : Pos} {te : TE} (he : PE X e te) (hco : X.env.scope.isCoroutine = false := by rfl) (hi : interactive X.env = false := by rfl) : GZ X (.Expr (.Yield (some e) yp) pos) (tZY te) := by
  refine ⟨fun B L ip Re m ys s0 c fs kf jf g0 l0 s σ H D w hm k hI ⟨hlt, ht⟩ => ?_⟩
  obtain ⟨i, rfl⟩ : ∃ i, m = i + 1 := ⟨m - 1, by omega⟩
  refine seg_Expr_Yield w.split w.gd w.guard ?_ hco hi
  rw [w.over]
  refine wpAny_mono (he.run _ s σ H _ hI.1 ht) (fun v s1 ⟨x, J, IJ, rv, Vw, z1, z2⟩ => ?_) fun x s1 q => k.exc _ s0 x s1 q
  intro kap hk
  refine ⟨ys, x, ip, σ, J, Vw, hm, rv, ⟨IJ, hI.2⟩, w.young, z1, fun J' s2 up I2 => ?_⟩
  have z := k.ok i (ys ++ [x]) s2 s2 .next ?_ ⟨σ, J', I2, z2 J' up⟩
  · exact ⟨hk .none s2 z, hk (.bool true) s2 z⟩
  rw [List.length_append, List.length_singleton]
  omega
/-- the ghost steps -/
theorem gz_weak {t u : TYn} (h : GZ X st t) (f : ∀ D ys σ H, u D ys σ H → t D ys σ H) : GZ X st u :=
  ⟨fun B L ip Re m ys s0 c fs kf jf g0 l0 s σ H D w hm k hI hu => h.run B L ip Re m ys s0 c fs kf jf g0 l0 s σ H D w hm k hI (f D ys σ H hu)⟩
theorem gzs_weak {t u : TYn} (h : GZs X sts t) (f : ∀ D ys σ H, u D ys σ H → t D ys σ H) : GZs X sts u :=
  ⟨fun B L ip Re m ys s0 c fs kf jf g0 l0 s σ H D w hm k hI hu => h.run B L ip Re m ys s0 c fs kf jf g0 l0 s σ H D w hm k hI (f D ys σ H hu)⟩
end
end ZZ
set_option Elab.async false
set_option linter.all false
set_option maxRecDepth 100000
namespace ZZ
open PySem PySem.Spec L2 PyProof.Rows GenW
theorem wc_loop {X : Cx} {L : LZ} {ip : List (Addr × Obj)} {B : Around} {c c2 : Code} {fs : List Frame} {g0 : Bool → Bool} {kr : Result → Sem PySem.Fin} {l1 l2 : List Value} {p : Pos} (w : WCz X L ip B c fs g0) (hw : c2.weight = 0) (hu : c2.cUnits = 0) :
    WCz X L ip B c2 (.ret kr none (g0 false) l1 c p l2 :: fs) id := by
  refine ⟨(over_loop hw hu).trans w.over, ?_, ?_, rfl, w.young⟩
  · show Option.map _ (splitAtGen fs) = none
    rw [w.split]
    rfl
  · show ((g0 false) || (fs.any Frame.guarded)) = false
    rw [w.guard, w.gd]
    rfl
section
variable {X : Cx} {body : List Stmt} {test : Expr} {pos : Pos} {tc : TT} {tb : TYn}
theorem z_back {L : LZ} {ip : List (Addr × Obj)} {B : Around} {Re : GenEnd} {c : Code} {fs : List Frame} {kf : Flow → Sem PySem.Fin} {jf : Value → Sem PySem.Fin} {g0 : Bool → Bool} {l0 : List Value → List Value} {D : YEnds} {m : Nat} {s0 s : Shared} {x : Value}
    (w : WCz X L ip B c fs g0) (k : WKz X L ip B Re c fs kf jf D) (h : cameBackBy (model X.prog X.w) X.A X.env X.xe x s) :
    Seg (model X.prog X.w) B Re (YPz X L D.yl) m s0 c (((Sem.raise x : Sem Flow).onRaise (cameBack X.env)).wrap kf jf g0 l0) fs s := by
  show Seg _ _ _ _ m s0 c (((cameBack X.env x).bind fun _ => (Sem.raise x : Sem Flow)).wrap kf jf g0 l0) fs s
  rw [Sem.bind_eq_wrap, Sem.wrap_wrap]
  refine seg_wrap ?_
  rw [w.over]
  refine wpAny_mono h (fun _ s1 q => ?_) fun y s1 q => ?_
  · exact k.exc m s0 x s1 q
  · exact k.exc m s0 y s1 q
end
end ZZ
set_option Elab.async false
set_option linter.all false
set_option maxRecDepth 100000
namespace ZZ
open PySem PySem.Spec L2 PyProof.Rows
section
variable {Z : Zx} {A : List Addr} {F H J : Hp} {ce : List Cell}
theorem SO.up (s : SO Z A F ce H) (u : UpH H J) : SO Z A F ce J := by
  refine ⟨fun b x e => u _ _ (s.sub _ _ e), s.len, s.nd, fun k a c h1 h2 => ?_⟩
  obtain ⟨o, ho⟩ := s.tracked h1
  exact (s.ok k a c h1 h2).mono (List.prefix_refl _) (Same.refl _) ((u _ _ ho).trans ho.symm) (fun h => h) fun b n1 n2 ⟨x, n3⟩ => ⟨(u _ _ n3).trans n3.symm, n2, n1⟩
end
/-- the rows only grow -/
def Grows (g : DGn) : Prop := ∀ ds sl ce, ds <+: (g ds sl ce).1
open Classical in
/-- a value is handed out, the store of the call as it was -/
noncomputable def zYld (c0 : List Cell) (f : DE) : DGn := fun ds sl ce => if ds.length < LINE then match f sl ce with
  | .ok (.im d) ce' => if ce'.take c0.length = c0 then (ds ++ [d], .nx sl ce') else (ds, .stuck)
  | .ok _ _ => (ds, .stuck)
  | .exc x es ce' => (ds, .exc x es sl ce')
  | .stuck => (ds, .stuck) else (ds, .stuck)
theorem gr_pl (f : DSt) : Grows (gPl f) := fun ds _ _ => List.prefix_refl ds
theorem gr_nil : Grows gNil := fun ds _ _ => List.prefix_refl ds
theorem gr_seq {f g : DGn} (hf : Grows f) (hg : Grows g) : Grows (gSeq f g) := fun ds sl ce => by
  have h1 := hf ds sl ce
  unfold gSeq
  obtain ⟨d2, o, e⟩ : ∃ d2 o, f ds sl ce = (d2, o) := ⟨_, _, rfl⟩
  rw [e] at h1 ⊢
  cases o with
  | nx sl2 ce2 => exact h1.trans (hg d2 sl2 ce2)
  | bk sl2 ce2 => exact h1
  | ct sl2 ce2 => exact h1
  | rt v ce2 => exact h1
  | exc x es sl2 ce2 => exact h1
  | stuck => exact h1
theorem gr_if {c : DE} {f g : DGn} (hf : Grows f) (hg : Grows g) : Grows (gIf c f g) := fun ds sl ce => by
  unfold gIf
  split
  · split
    · exact hf _ _ _
    · exact hg _ _ _
  · exact List.prefix_refl ds
  · exact List.prefix_refl ds
  · exact List.prefix_refl ds
theorem gr_yld (c0 : List Cell) (f : DE) : Grows (zYld c0 f) := fun ds sl ce => by
  unfold zYld
  split
  · split
    · split
      · exact List.prefix_append ds _
      · exact List.prefix_refl ds
    · exact List.prefix_refl ds
    · exact List.prefix_refl ds
    · exact List.prefix_refl ds
  · exact List.prefix_refl ds
def YEnds.toG (D : YEnds) : GEnds where
  nx := D.nx
  rt := D.rt
  bk := D.bk
  ct := D.ct
/-- at each value: what has gone out is a part of out -/
def AtY (Z : Zy) (A : List Addr) (F : Hp) (c0 : List Cell) (out : List D) (D : YEnds) : Prop :=
  ∀ A' F' ce' H' ds d ys x, A <+: A' → Same F F' → SO Z.toZx A' F' ce' H' → ce'.take c0.length = c0 → Reps Z.toZx F' ds ys → Rep Z.toZx F' d x → ds ++ [d] <+: out → D.yl ys x H' (fun J => ∃ F2, Same F' F2 ∧ SO Z.toZx A' F2 ce' J)
theorem AtY.mono {Z : Zy} {A A' : List Addr} {F F' : Hp} {c0 : List Cell} {out : List D} {D : YEnds} (h : AtY Z A F c0 out D) (p : A <+: A') (e : Same F F') : AtY Z A' F' c0 out D :=
  fun A2 F2 ce2 H2 ds d ys x p2 e2 => h A2 F2 ce2 H2 ds d ys x (p.trans p2) (e.trans e2)
theorem AtY.sub {Z : Zy} {A : List Addr} {F : Hp} {c0 : List Cell} {out o2 : List D} {D : YEnds} (h : AtY Z A F c0 out D) (q : o2 <+: out) : AtY Z A F c0 o2 D :=
  fun A2 F2 ce2 H2 ds d ys x p2 e2 s t r1 r2 l => h A2 F2 ce2 H2 ds d ys x p2 e2 s t r1 r2 (l.trans q)
def tZd (Z : Zy) (W : WX) (c0 : List Cell) (g : DGn) : TYn := fun D ys σ H => ∃ A F sl ce ds, SO Z.toZx A F ce H ∧ SL Z A F sl σ ∧ Reps Z.toZx F ds ys ∧ AtY Z A F c0 (g ds sl ce).1 D ∧ PostG Z A F W D.toG (g ds sl ce)
section
variable {X : Cx} {Z : Zy} {W : WX} {c0 : List Cell} {st : Stmt} {sts sts' : List Stmt} {f : DSt} {g h : DGn} {e c : Expr} {fe : DE} {pos yp : Pos}
theorem dz_plain (hs : PS X st (tS Z W f)) : GZ X st (tZd Z W c0 (gPl f)) := gz_weak (gz_ps hs) fun D ys σ H ⟨A, F, sl, ce, ds, so, hs, r, _, p⟩ => ⟨A, F, sl, ce, so, hs, PostG.at p r⟩
theorem dzs_nil : GZs X [] (tZd Z W c0 gNil) := gzs_weak gzs_nil fun D ys σ H ⟨A, F, sl, ce, ds, so, hs, r, _, p⟩ => p A F ys (List.prefix_refl _) (Same.refl _) r A F H σ (List.prefix_refl _) (Same.refl _) so hs
theorem dzs_cons (a : GZ X st (tZd Z W c0 g)) (b : GZs X sts (tZd Z W c0 h)) (gh : Grows h) : GZs X (st :: sts) (tZd Z W c0 (gSeq g h)) := gzs_weak (gzs_cons a b) fun D ys σ H ⟨A, F, sl, ce, ds, so, hs, r, y, p⟩ => by
  unfold gSeq at p y
  obtain ⟨ds2, o, eg⟩ : ∃ ds2 o, g ds sl ce = (ds2, o) := ⟨_, _, rfl⟩
  refine ⟨A, F, sl, ce, ds, so, hs, r, ?_, fun A0 F0 ys0 p0 e0 r0 => ?_⟩
  · rw [eg] at y ⊢
    cases o with
    | nx sl2 ce2 => exact y.sub (gh ds2 sl2 ce2)
    | bk sl2 ce2 => exact y
    | ct sl2 ce2 => exact y
    | rt v ce2 => exact y
    | exc x es sl2 ce2 => exact y
    | stuck => exact y
  · rw [eg] at p r0 y ⊢
    cases o with
    | nx sl2 ce2 => exact fun A' F' H' σ' p' e' so' hs' => ⟨A', F', sl2, ce2, ds2, so', hs', r0.mono e', y.mono (p0.trans p') (e0.trans e'), p.mono (p0.trans p') (e0.trans e')⟩
    | bk sl2 ce2 => exact p A0 F0 ys0 p0 e0 r0
    | ct sl2 ce2 => exact p A0 F0 ys0 p0 e0 r0
    | rt v ce2 => exact p A0 F0 ys0 p0 e0 r0
    | exc x es sl2 ce2 => exact p A0 F0 ys0 p0 e0 r0
    | stuck => exact p A0 F0 ys0 p0 e0 r0
theorem dz_if (hc : PT X c (tT Z W fe)) (a : GZs X sts (tZd Z W c0 g)) (b : GZs X sts' (tZd Z W c0 h)) : GZ X (.If c sts sts' pos) (tZd Z W c0 (gIf fe g h)) := gz_weak (gz_if hc a b) fun D ys σ H ⟨A, F, sl, ce, ds, so, hs, r, y, p⟩ => by
  unfold gIf at p y
  refine ⟨A, F, sl, ce, so, hs, ?_⟩
  cases e1 : fe sl ce with
  | stuck => rw [e1] at p; exact (p A F ys (List.prefix_refl _) (Same.refl _) r).elim
  | exc x es ce1 =>
    rw [e1] at p
    exact fun A' F' H' dx p' e' so' xo => p A F ys (List.prefix_refl _) (Same.refl _) r A' F' H' σ dx p' e' so' (hs.mono p' e') xo
  | ok v ce1 =>
    rw [e1] at p y
    intro A' F' H' x p' e' so' rv
    cases v with
    | cell k => exact (p A F ys (List.prefix_refl _) (Same.refl _) r).elim
    | exn c es => exact (p A F ys (List.prefix_refl _) (Same.refl _) r).elim
    | im d => cases d with
      | bl k =>
        refine ⟨k, rep_bl rv, ?_⟩
        cases k with
        | true => exact iteT ⟨A', F', sl, ce1, ds, so', hs.mono p' e', r.mono e', y.mono p' e', p.mono p' e'⟩
        | false => exact iteF ⟨A', F', sl, ce1, ds, so', hs.mono p' e', r.mono e', y.mono p' e', p.mono p' e'⟩
      | _ => exact (p A F ys (List.prefix_refl _) (Same.refl _) r).elim
theorem dz_yield (he : PE X e (tE Z W fe)) (hco : X.env.scope.isCoroutine = false := by rfl) (hi : interactive X.env = false := by rfl) : GZ X (.Expr (.Yield (some e) yp) pos) (tZd Z W c0 (zYld c0 fe)) := gz_weak (gz_yield he hco hi) fun D ys σ H ⟨A, F, sl, ce, ds, so, hs, r, y, p⟩ => by
  unfold zYld at p y
  have rl := r.length
  by_cases hl : ds.length < LINE
  · rw [if_pos hl] at p y
    refine ⟨by rw [← rl, sizeLine_eq]; exact hl, A, F, sl, ce, so, hs, ?_⟩
    cases e1 : fe sl ce with
    | stuck => rw [e1] at p; exact (p A F ys (List.prefix_refl _) (Same.refl _) r).elim
    | exc x es ce1 =>
      rw [e1] at p
      exact fun A' F' H' dx p' e' so' xo => p A F ys (List.prefix_refl _) (Same.refl _) r A' F' H' σ dx p' e' so' (hs.mono p' e') xo
    | ok v ce1 =>
      rw [e1] at p y
      intro A' F' H' x p' e' so' rv
      cases v with
      | cell k => exact (p A F ys (List.prefix_refl _) (Same.refl _) r).elim
      | exn c es => exact (p A F ys (List.prefix_refl _) (Same.refl _) r).elim
      | im d =>
        dsimp only at p y
        by_cases hk : ce1.take c0.length = c0
        · rw [if_pos hk] at p y
          refine ⟨_, y A' F' ce1 H' ds d ys x p' e' so' hk (r.mono e') rv (List.prefix_refl _), fun J' ⟨F2, e2, so2⟩ => ?_⟩
          exact p A' F' (ys ++ [x]) p' e' ((r.mono e').append ⟨x, [], rfl, rv, by unfold Reps; rfl⟩) A' F2 J' σ (List.prefix_refl _) e2 so2 (hs.mono p' (e'.trans e2))
        · rw [if_neg hk] at p
          exact (p A F ys (List.prefix_refl _) (Same.refl _) r).elim
  · rw [if_neg hl] at p
    exact (p A F ys (List.prefix_refl _) (Same.refl _) r).elim
end
end ZZ
set_option Elab.async false
set_option linter.all false
set_option maxRecDepth 100000
namespace ZZ
open PySem PySem.Spec L2 PyProof.Rows
end ZZ
set_option Elab.async false
set_option linter.all false
set_option maxRecDepth 100000
namespace ZZ
open PySem PySem.Spec L2 PyProof.Rows GenW
/-- the own objects of a frame: its locals, its cells, its iterators, what its context pins -/
def OwnOf (X : Cx) (ip : List (Addr × Obj)) (b : Addr) : Prop := b = X.env.locals ∨ (∃ x, X.env.cells.lookup x = some b) ∨ ∃ p ∈ X.pn ++ ip, p.1 = b
theorem gz_wake {X : Cx} {L : LZ} {ip : List (Addr × Obj)} {σ : L2.St} {H J : Hp} {s0 s s' : Shared} {ys ys' : List V} (I : Gz X L s0 ip ys σ H s)
    (os : s'.os = X.s_0.os) (bare : AllBare s'.gens) (un : Un X.fs X.ex X.H_0 J X.s_0.heap s'.heap) (hok : HOk X.prog X.w J s'.heap)
    (own : ∀ b, OwnOf X ip b → (∀ o, s.heap.get? b = some o → s'.heap.get? b = some o) ∧ J b = none)
    (oth : ∀ p ∈ pinsAt L.l s'.heap, s'.heap.get? p.1 = some p.2 ∧ J p.1 = none ∧ p.1 ≠ X.env.locals ∧ p.1 ∉ X.fs ∧ ∀ v, p.2.data ≠ .cell v)  (lv : (∀ b ∈ L.l, ∃ o, s'.heap.get? b = some o) ∧ L.rw ys' s'.heap) : Gz X L s' ip ys' σ J s' := by
  obtain ⟨I, _⟩ := I
  have oL := own X.env.locals (.inl rfl)
  refine ⟨⟨I.ok, os, bare, un, ?_, fun x c e => ?_, oL.2, fun x c e => (own c (.inr (.inl ⟨x, e⟩))).2, fun p hp => ?_, hok, I.len⟩, lv⟩
  · obtain ⟨m, h1, h2⟩ := I.loc
    refine ⟨m, h1.at oL.1, fun i x v a1 a2 a3 => ?_⟩
    obtain ⟨u, r, l⟩ := h2 i x v a1 a2 a3
    refine ⟨u, r, ?_⟩
    rcases l with l | ⟨l1, c, l2, l3⟩
    · exact .inl l
    · refine .inr ⟨l1, c, l2, ?_⟩
      obtain ⟨o, ho, hd⟩ := l3
      exact ⟨o, (own c (.inr (.inl ⟨x, l2⟩))).1 o ho, hd⟩
  · obtain ⟨v, o, ho, hd⟩ := I.cell x c e
    exact ⟨v, o, (own c (.inr (.inl ⟨x, e⟩))).1 o ho, hd⟩
  · have keep : p ∈ X.pn ++ ip → s'.heap.get? p.1 = some p.2 ∧ J p.1 = none ∧ p.1 ≠ X.env.locals ∧ p.1 ∉ X.fs ∧ ∀ v, p.2.data ≠ .cell v := fun hq => by
      have hp2 : p ∈ X.pn ++ (pinsAt L.l s0.heap ++ ip) := by
        rcases List.mem_append.mp hq with z | z
        · exact List.mem_append_left _ z
        · exact List.mem_append_right _ (List.mem_append_right _ z)
      obtain ⟨b1, b2, b3, b4, b5⟩ := I.pin p hp2
      obtain ⟨k1, k2⟩ := own p.1 (.inr (.inr ⟨p, hq, rfl⟩))
      exact ⟨k1 _ b1, k2, b3, b4, b5⟩
    rcases List.mem_append.mp hp with z | z
    · exact keep (List.mem_append_left _ z)
    · rcases List.mem_append.mp z with y | y
      · exact oth p y
      · exact keep (List.mem_append_right _ y)
end ZZ
set_option Elab.async false
set_option linter.all false
set_option maxRecDepth 100000
set_option maxHeartbeats 1000000
namespace ZZ
open PySem PySem.Spec L2 PyProof.Rows GenW
/-- at a value or at the end: plain facts; sc, Hc: where the call was made -/
structure MidZ (P : Program) (w : World) (out : List Env) (Hc : Hp) (sc : Shared) (L : List Addr) (a : Addr) (g : Nat) (s0 s1 : Shared) (J : Hp) : Prop where
  os : s1.os = sc.os
  bare : AllBare s1.gens
  lim : s1.heap.NoLimit
  gen : s1.heap.IsGen a g
  un : Un (frs out) [] Hc J sc.heap s1.heap
  hok : HOk P w J s1.heap
  held : ∀ p ∈ pinsAt L s0.heap, s1.heap.get? p.1 = some p.2 ∧ J p.1 = none
/-- before it is woken: as at the value, the generator's own objects G kept -/
structure WakZ (P : Program) (w : World) (out : List Env) (Hc : Hp) (sc : Shared) (L : LZ) (G : List Addr) (s1 s' : Shared) (Vw : Hp → Prop) (J' : Hp) (zs : List V) : Prop where
  view : Vw J'
  os : s'.os = sc.os
  bare : AllBare s'.gens
  un : Un (frs out) [] Hc J' sc.heap s'.heap
  hok : HOk P w J' s'.heap
  own : ∀ b ∈ G, (∀ o, s1.heap.get? b = some o → s'.heap.get? b = some o) ∧ J' b = none
  oth : ∀ p ∈ pinsAt L.l s'.heap, s'.heap.get? p.1 = some p.2 ∧ J' p.1 = none ∧ ∀ v, p.2.data ≠ .cell v
  live : (∀ b ∈ L.l, ∃ o, s'.heap.get? b = some o) ∧ L.rw zs s'.heap
def YitZ (P : Program) (w : World) (out : List Env) (Hc : Hp) (sc : Shared) (L : LZ) (a : Addr) (g : Nat) (yl : List V → V → Hp → (Hp → Prop) → Prop) : Protocol := fun m s0 v s1 kap =>
  ∃ (ys : List V) (x : V) (J : Hp) (G : List Addr) (Vw : Hp → Prop), m + 1 + ys.length = sizeLine ∧ RelV x v ∧ yl ys x J Vw ∧ L.rw ys s0.heap ∧ MidZ P w out Hc sc L.l a g s0 s1 J ∧ (∀ b ∈ G, sc.heap.objs.size ≤ b ∧ b ∉ L.l ∧ J b = none ∧ ∃ o, s1.heap.get? b = some o ∧ ∀ v, o.data ≠ .cell v) ∧ a ∈ G ∧
    ∀ J' s', WakZ P w out Hc sc L G s1 s' Vw J' (ys ++ [x]) → kap (.send .none) s' ∧ kap (.send (.bool true)) s'
def EndZ (P : Program) (w : World) (out : List Env) (Hc : Hp) (sc : Shared) (L : LZ) (a : Addr) (g : Nat) (Q : List V → Hp → Prop) (E : XK) : GenEnd := fun m s0 r s1 =>
  ((r = .ok (.ret .none) ∨ r = .ok .next) ∧ ∃ ys J, m + ys.length = sizeLine ∧ MidZ P w out Hc sc L.l a g s0 s1 J ∧ L.rw ys s0.heap ∧ Q ys J) ∨ ∃ e, r = .error e ∧ CX P w out Hc sc E e s1 ∧ s1.heap.IsGen a g
/-- a generator that has not begun -/
def GNewZ (P : Program) (w : World) (k : Nat) (out : List Env) (Hc : Hp) (sc : Shared) (yl : List V → V → Hp → (Hp → Prop) → Prop) (Q : List V → Hp → Prop) (E : XK) (u : Value) (s' : Shared) : Prop :=
  ∃ (a : Addr) (g : Nat) (c : Code), u = .ref a ∧ sc.heap.objs.size ≤ a ∧ a < s'.heap.objs.size ∧ s'.heap.IsGen a g ∧ s'.gens[g]? = some (.fresh c) ∧ s'.os = sc.os ∧ AllBare s'.gens ∧ s'.heap.NoLimit ∧ (∀ b o, sc.heap.get? b = some o → s'.heap.get? b = some o) ∧
    ∀ (B : Around) (L : LZ) (s2 : Shared) (H2 : Hp), Room k B → B.frames = some out → (∀ b ∈ L.l, s'.heap.objs.size ≤ b) → (∀ b o, s'.heap.get? b = some o → s2.heap.get? b = some o) → s2.os = sc.os → AllBare s2.gens →
      UpH Hc H2 → Un (frs out) [] Hc H2 sc.heap s2.heap → HOk P w H2 s2.heap → (∀ b o, s'.heap.get? b = some o → Hc b = none → H2 b = none) → (∀ p ∈ pinsAt L.l s2.heap, s2.heap.get? p.1 = some p.2 ∧ H2 p.1 = none ∧ ∀ v, p.2.data ≠ .cell v) → ((∀ b ∈ L.l, ∃ o, s2.heap.get? b = some o) ∧ L.rw [] s2.heap) →
      Seg (model P w) B (EndZ P w out Hc sc L a g Q E) (YitZ P w out Hc sc L a g yl) sizeLine s2 c ((model P w).den c) [] s2
section
variable {P : Program} {w : World} {K : PySem.W.Frag} {mg : Str → Option Value} {base : Heap} {k : Nat} {f : Addr} {qual : Str} {body : List Stmt} {scope : Scope} {cdv : Value} {N ps : List Str}
theorem g_beginZ (G : GScope N ps scope) (hcl : ∀ n, cellsFrom n scope.names [] = []) {A₁ : Around} {out : List Env} {u t : Shared} {H : Hp} {xs : List V} {as : List Value} {E : XK} {yl : List V → V → Hp → (Hp → Prop) → Prop} {Q : List V → Hp → Prop}
    (e : Env0 P w K mg base A₁ out u H) (hn : xs.length = ps.length) (rx : Vals xs as)
    (fr : InCallC u u.heap.objs.size (bindL (envOfC qual scope u.heap.objs.size f cdv).kindOf (ps.zip as) fun _ => none) (cellsFrom (u.heap.objs.size + 1) scope.names []) (bindC (envOfC qual scope u.heap.objs.size f cdv).kindOf (ps.zip as) fun _ => none) t)
    (hb : ∀ (B : Around) (pn : List (Addr × Obj)), Room k (B.deeper (envOfC qual scope u.heap.objs.size f cdv)) →
      ∃ y, GZs (gcxOf P w K mg base N qual scope f cdv B out u H E pn) body y ∧ ∀ H2, UpH H H2 → y { nx := fun l _ J => Q l J, rt := fun l v J => v = .non ∧ Q l J, yl := yl } [] (start N xs) H2)
    {ob : Obj} {n₁ n₂ : Value} {tok : Nat} (h1 : ob.cls = .type "generator") (h2 : ob.data = .fields #[.int t.gens.size 0, n₁, n₂]) (h3 : ob.slots = #[]) (h4 : ∀ hp : Heap, (hp.push ob).get? hp.objs.size = some ob) :
    GNewZ P w (k + 1) out H u yl Q E (.ref t.heap.objs.size) { t with gens := t.gens.push (.fresh (.func body (envOfC qual scope u.heap.objs.size f cdv))), toks := tok, heap := t.heap.push ob } := by
  obtain ⟨hh, tt, et, hkp⟩ := fr.done
  have old : ∀ b o, u.heap.get? b = some o → t.heap.get? b = some o := fr.toInCall.keep
  have up : u.heap.objs.size < t.heap.objs.size := fr.toInCall.ns.lt
  have nl : u.heap.NoLimit := e.mod.nolimit.keeps fun b o z => (e.bs b o z).1
  have nl' : t.heap.NoLimit := nl.keeps old
  have oe : t.os = u.os := by rw [et]
  have ge : t.gens = u.gens := by rw [et]
  have isg : ∀ hp : Heap, hp.get? t.heap.objs.size = some ob → hp.IsGen t.heap.objs.size t.gens.size := fun hp z => ⟨ob, n₁, n₂, z, h1, h2, h3⟩
  have at0 : (t.heap.push ob).get? t.heap.objs.size = some ob := h4 _
  refine ⟨t.heap.objs.size, t.gens.size, .func body (envOfC qual scope u.heap.objs.size f cdv), rfl, Nat.le_of_lt up, ?_, isg _ at0, Array.getElem?_push_size .., oe, ?_, ?_, ?_, ?_⟩
  · show t.heap.objs.size < (t.heap.push ob).objs.size
    rw [Heap.size_push]
    omega
  · refine AllBare.push ?_ rfl
    rw [ge]
    exact e.bare
  · exact nl'.keeps fun b o z => Heap.get?_push_of_some _ z
  · exact fun b o z => Heap.get?_push_of_some _ (old b o z)
  · intro B L v H2 room frs0 hL keep os bare upH un hok young hp hlv
    have eB : Env0 P w K mg base B out u H := ⟨frs0, e.mod, e.bs, e.bsz, e.funs, e.frf, e.hok, e.bare⟩
    obtain ⟨y, hy, hq⟩ := hb B [(t.heap.objs.size, ob)] (room.deeper _)
    have J1 := inv_startG (E := E) (cd := cdv) (qual := qual) G room.hd eB hn rx fr
    have keep' : ∀ b o, t.heap.get? b = some o → v.heap.get? b = some o := fun b o z => keep b o (Heap.get?_push_of_some _ z)
    have J2 := J1.call' (s' := v) (ch := []) (H' := H2) (os.trans oe.symm) ⟨fun b o z _ _ _ => keep' b o z, fun b o z _ _ _ => ⟨o.slots, keep' b o z⟩, fun b o z hn _ => young b o (Heap.get?_push_of_some _ z) hn, fun b o z _ => ⟨o, keep' b o z⟩, fun b l z => upH _ _ z, fun b o l z => upH _ _ z, fun b l z => ⟨#[], by simpa using upH _ _ z⟩⟩ hok bare fun b z => by cases z
    have obv : v.heap.get? t.heap.objs.size = some ob := keep _ ob at0
    have szL : ∀ b ∈ L.l, t.heap.objs.size < b := fun b hb => by
      have z : (t.heap.push ob).objs.size ≤ b := hL b hb
      rw [Heap.size_push] at z
      omega
    have aN : H2 t.heap.objs.size = none := young _ ob at0 (e.hok.fresh (Nat.le_of_lt up))
    have J3 : Inv (gcxOf P w K mg base N qual scope f cdv B out u H E [(t.heap.objs.size, ob)]) (pinsAt L.l v.heap ++ []) (start N xs) H2 v := Inv.pinnedG J2 fun q hq => by
      rcases List.mem_append.mp hq with z | z
      · obtain rfl := List.mem_singleton.mp z
        exact ⟨obv, aN, Nat.ne_of_gt up, J1.nofs (Nat.le_refl _), fun x q => by rw [h2] at q; cases q⟩
      · rw [List.append_nil] at z
        obtain ⟨z1, z2, z3⟩ := hp q z
        have lt := szL q.1 (of_pinsAt z).1
        exact ⟨z1, z2, Nat.ne_of_gt (Nat.lt_trans up lt), J1.nofs (Nat.le_of_lt lt), z3⟩
    have mid : ∀ {ip : List (Addr × Obj)} {ys : List V} {σ : L2.St} {s0 s1 : Shared} {J : Hp}, Gz (gcxOf P w K mg base N qual scope f cdv B out u H E [(t.heap.objs.size, ob)]) L s0 ip ys σ J s1 → MidZ P w out H u L.l t.heap.objs.size t.gens.size s0 s1 J := fun {ip ys σ s0 s1 J} ⟨I, _⟩ =>
      ⟨I.os, I.bare, I.nolimit, isg _ (I.pin (t.heap.objs.size, ob) (List.mem_append_left _ (List.mem_singleton.mpr rfl))).1, I.base, I.hok, fun q hq => by
        obtain ⟨b1, b2, _⟩ := I.pin q (List.mem_append_right _ (List.mem_append_left _ hq))
        exact ⟨b1, b2⟩⟩
    refine seg_func (seg_imp (R := REz (gcxOf P w K mg base N qual scope f cdv B out u H E [(t.heap.objs.size, ob)]) L (fun l x J => x = .non ∧ Q l J) fun x s' => CX P w out H u E x s' ∧ ∀ q ∈ [(t.heap.objs.size, ob)], s'.heap.get? q.1 = some q.2)
      (Y := YPz (gcxOf P w K mg base N qual scope f cdv B out u H E [(t.heap.objs.size, ob)]) L yl) (fun m s0 r s' z => ?_) (fun m s0 x s' ka kb hk z => ?_) sizeLine ?_)
    · cases r with
      | error x => exact .inr ⟨x, rfl, z.1, isg _ (z.2 (t.heap.objs.size, ob) (List.mem_singleton.mpr rfl))⟩
      | ok fl =>
        cases fl with
        | next => exact False.elim z
        | brk => exact False.elim z
        | cont => exact False.elim z
        | ret a =>
          obtain ⟨l, x, ip, σ, J, hm, I, rx, rfl, hQ⟩ := z
          obtain rfl : a = Value.none := rx
          exact .inl ⟨.inl rfl, l, J, hm, mid I, I.2.2, hQ⟩
    · obtain ⟨l, x', ip, σ, J, Vw, hm, rx, IG, yg, hyl, hs⟩ := z
      have I := IG.1
      refine ⟨l, x', J, u.heap.objs.size :: t.heap.objs.size :: ip.map (·.1), Vw, hm, rx, hyl, IG.2.2, mid IG, fun b hb => ?_, by simp, fun J' s' wk => (fun z => ⟨hk _ _ z.1, hk _ _ z.2⟩) (hs J' s' wk.view (gz_wake IG wk.os wk.bare wk.un wk.hok (fun b ob => ?_) (fun q hq => ?_) wk.live))⟩
      · rcases List.mem_cons.mp hb with rfl | hb
        · refine ⟨Nat.le_refl _, fun hL' => absurd (szL _ hL') (by omega), I.free, ?_⟩
          obtain ⟨m', ⟨o', es, ep, ho, hd, _⟩, _⟩ := I.loc
          exact ⟨o', ho, fun v q => by rw [hd] at q; cases q⟩
        · rcases List.mem_cons.mp hb with rfl | hb
          · obtain ⟨b1, b2, _, _, b5⟩ := I.pin (t.heap.objs.size, ob) (List.mem_append_left _ (List.mem_singleton.mpr rfl))
            exact ⟨Nat.le_of_lt up, fun hL' => absurd (szL _ hL') (Nat.lt_irrefl _), b2, ob, b1, b5⟩
          · obtain ⟨p, hp, rfl⟩ := List.mem_map.mp hb
            obtain ⟨b1, b2, _, _, b5⟩ := I.pin p (List.mem_append_right _ (List.mem_append_right _ hp))
            exact ⟨(yg p hp).1, (yg p hp).2, b2, p.2, b1, b5⟩
      · rcases ob with rfl | ⟨n, hc⟩ | ⟨p, hp, rfl⟩
        · exact wk.own _ List.mem_cons_self
        · have hc : (cellsFrom (u.heap.objs.size + 1) scope.names []).lookup n = some b := hc
          rw [hcl] at hc
          cases hc
        · rcases List.mem_append.mp hp with z | z
          · obtain rfl := List.mem_singleton.mp z
            exact wk.own _ (List.mem_cons_of_mem _ List.mem_cons_self)
          · exact wk.own _ (List.mem_cons_of_mem _ (List.mem_cons_of_mem _ (List.mem_map.mpr ⟨p, z, rfl⟩)))
      · obtain ⟨b1, b2, b3⟩ := wk.oth q hq
        have lt := szL q.1 (of_pinsAt hq).1
        exact ⟨b1, b2, Nat.ne_of_gt (Nat.lt_trans up lt), J1.nofs (Nat.le_of_lt lt), b3⟩
    · refine hy.run B L [] _ sizeLine [] v _ [] _ _ id id v (start N xs) H2 _ ⟨over_func, rfl, rfl, rfl, fun q hq => (by cases hq)⟩ rfl ⟨fun m l s0 s' fl hm z => ?_, fun m s0 x s' z => ?_⟩ ⟨J3, hlv⟩ (hq H2 upH)
      · cases fl with
        | next =>
          obtain ⟨σ, J, I, hQ⟩ := z
          exact seg_end (.ok (.ret .none)) ⟨l, .non, [], σ, J, hm, I, rfl, rfl, hQ⟩
        | brk => obtain ⟨_, _, _, q⟩ := z; exact q.elim
        | cont => obtain ⟨_, _, _, q⟩ := z; exact q.elim
        | ret a =>
          obtain ⟨x, σ, J, I, rx, ev, hQ⟩ := z
          exact seg_end (.ok (.ret a)) ⟨l, x, [], σ, J, hm, I, rx, ev, hQ⟩
      · have z' : wpAny (model P w) (B.deeper (envOfC qual scope u.heap.objs.size f cdv)) (leaving (envOfC qual scope u.heap.objs.size f cdv) x) (fun _ s'' => CX P w out H u E x s'' ∧ ∀ q ∈ [(t.heap.objs.size, ob)], s''.heap.get? q.1 = some q.2) (fun _ _ => False) s' := z
        refine seg_wrap ?_
        rw [over_func]
        exact wpAny_mono z' (fun _ s'' q => seg_end (.error x) q) fun _ _ q => q.elim
end
end ZZ
set_option Elab.async false
set_option linter.all false
set_option maxRecDepth 100000
set_option maxHeartbeats 1000000
namespace ZZ
open PySem PySem.Spec L2 PyProof.Rows GenW
/-- the promise of a body: arguments, heap, at each value, at the end -/
abbrev SpY : Type := List V → Hp → (List V → V → Hp → (Hp → Prop) → Prop) → (List V → Hp → Prop) → XK → Prop
/-- a body's promise by its denotation; c0: the store of the call -/
def spZd (Z : Zx) (body : List Cell → DGn) (nsl n : Nat) : SpY := fun vs H yl Q E => ∃ A F ce ds out ce2, SO Z A F ce H ∧ VReps Z.z A F ds vs ∧ ds.length = n ∧ mkG nsl (body ce) ds ce = some (out, ce2) ∧
  (∀ A' F' ce' J es d ys x, A <+: A' → Same F F' → SO Z A' F' ce' J → ce'.take ce.length = ce → Reps Z F' es ys → Rep Z F' d x → es ++ [d] <+: out → yl ys x J (fun J' => ∃ F2, Same F' F2 ∧ SO Z A' F2 ce' J')) ∧ ∀ F' J ys, Same F F' → SO Z A F' ce2 J → Reps Z F' out ys → Q ys J
theorem gEnd_fst {n : Nat} {r : List D × Out} {out : List D} {ce2 : List Cell} (e : gEnd n r = some (out, ce2)) : r.1 = out := by
  obtain ⟨ds, o⟩ := r
  cases o with
  | nx sl ce' => cases e; rfl
  | rt v ce' =>
    cases v with
    | im d => cases d with
      | non => cases e; rfl
      | _ => cases e
    | cell k => cases e
    | exn c es => cases e
  | bk sl ce' => cases e
  | ct sl ce' => cases e
  | exc c es sl ce' => cases e
  | stuck => cases e
end ZZ
set_option Elab.async false
set_option linter.all false
set_option maxRecDepth 100000
namespace ZZ
open PySem PySem.Spec L2 PyProof.Rows GenW
section
variable {P : Program} {w : World} {out : List Env} {Hc : Hp} {sc : Shared} {L : LZ} {a : Addr} {g m : Nat} {gs : GenState} {yl : List V → V → Hp → (Hp → Prop) → Prop} {Q : List V → Hp → Prop} {A : Around} {s : Shared} {R : Option Value → Shared → Prop} {Ex : Value → Shared → Prop}
theorem next_Z (hh : A.handled = none) (hd : A.depth < recursionLimit) (hl : s.heap.NoLimit) (hg : s.heap.IsGen a g) (hgs : s.gens[g]? = some gs)
    (hgo : gs.Goes (model P w) A.in1 (EndZ P w out Hc sc L a g Q EF) (YitZ P w out Hc sc L a g yl) m (.send .none) (s.setGen g .running))
    (hv : ∀ v s1 gs' ys x J G Vw, gs'.bare = true → (m - 1) + 1 + ys.length = sizeLine → RelV x v → yl ys x J Vw → L.rw ys s.heap → MidZ P w out Hc sc L.l a g s s1 J → (∀ b ∈ G, sc.heap.objs.size ≤ b ∧ b ∉ L.l ∧ J b = none ∧ ∃ o, s1.heap.get? b = some o ∧ ∀ v, o.data ≠ .cell v) → a ∈ G →
      (∀ J' s', WakZ P w out Hc sc L G s1 s' Vw J' (ys ++ [x]) → ∃ i, m = i + 1 ∧ sleeps gs' ∧ gs'.Goes (model P w) A.in1 (EndZ P w out Hc sc L a g Q EF) (YitZ P w out Hc sc L a g yl) i (.send .none) s') → R (some v) (s1.setGen g gs'))
    (he : ∀ s1 h' ys J, m + ys.length = sizeLine → MidZ P w out Hc sc L.l a g s s1 J → L.rw ys s.heap → Q ys J → (∀ b o, s1.heap.get? b = some o → h'.get? b = some o) → R none { s1.setGen g .finished with heap := h' }) :
    wpAny (model P w) A (pyNext (.ref a)) R Ex s := by
  refine next_genG (F := fun m s0 s1 => ∃ (ys : List V) (J : Hp), m + ys.length = sizeLine ∧ MidZ P w out Hc sc L.l a g s0 s1 J ∧ L.rw ys s0.heap ∧ Q ys J) (Er := fun e s1 => CX P w out Hc sc EF e s1 ∧ s1.heap.IsGen a g) (Y := YitZ P w out Hc sc L a g yl) hh hl hd hg hgs hgo (fun v s1 gs' hb hy => ?_) (fun s1 hq h' hk => ?_) fun e s1 hq => ?_
  · obtain ⟨ys, x, J, G, Vw, hm, rx, hyl, hrw, mid, hG, hGa, hw⟩ := hy
    refine hv v s1 gs' ys x J G Vw hb hm rx hyl hrw ⟨mid.os, mid.bare, mid.lim, mid.gen, mid.un, mid.hok, mid.held⟩ hG hGa fun J' s' wk => ?_
    have z := hw J' s' wk
    cases m with
    | zero => exact z.1.elim
    | succ i => exact ⟨i, rfl, by
        obtain ⟨_, z⟩ := z
        cases gs' with
        | fresh c => cases z.1
        | suspended k l c p fs cl => trivial
        | running => exact z.elim
        | finished => exact z.elim, z.1⟩
  · obtain ⟨ys, J, hm, mid, hrw, hQ⟩ := hq
    exact he s1 h' ys J hm ⟨mid.os, mid.bare, mid.lim, mid.gen, mid.un, mid.hok, mid.held⟩ hrw hQ hk
  · obtain ⟨_, _, _, _, _, _, _, _, _, _, _, _, z⟩ := hq.1
    exact z.elim
end
end ZZ
set_option Elab.async false
set_option linter.all false
set_option maxRecDepth 100000
set_option maxHeartbeats 1000000
namespace ZZ
open PySem PySem.Spec L2 PyProof.Rows GenW
/-- the twin that cannot be woken -/
def twin : GenState → GenState
  | .suspended _ l c p fs cl => .suspended (fun _ => .unsupported "") l c p fs cl
  | x => x
def flatF : List Frame → Bool
  | [] => true
  | .ret .. :: r => flatF r
  | .gen .. :: _ => false
def flatG : GenState → Bool
  | .suspended _ _ _ _ fs _ => flatF fs
  | _ => true
def flatE : End → Bool
  | .ret _ => true
  | .susp _ _ _ _ _ _ fs => flatF fs
theorem flatF_split : ∀ {fs : List Frame}, flatF fs = true → splitAtGen fs = none
  | [], _ => rfl
  | .ret .. :: r, h => by
    have := flatF_split (fs := r) h
    simp only [splitAtGen, this, Option.map_none]
  | .gen .. :: _, h => by cases h
theorem flatF_app : ∀ {a b : List Frame}, flatF a = true → flatF b = true → flatF (a ++ b) = true
  | [], _, _, h => h
  | .ret .. :: r, b, h, hb => flatF_app (a := r) h hb
  | .gen .. :: _, _, h, _ => by cases h
theorem flatE_state {e : End} (h : flatE e = true) : flatG e.genState = true := by
  cases e with
  | ret r => rfl
  | susp v g l k c p fs => exact h
theorem twin_seen (x : GenState) : (twin x).seen = x.seen := by cases x <;> rfl
/-- old: the sleepers; a: with their twins, b: with themselves -/
structure RelG (old : Nat → Option GenState) (a b : Array GenState) : Prop where
  size : b.size = a.size
  oth : ∀ i, old i = none → b[i]? = a[i]? ∧ ∀ x, a[i]? = some x → flatG x = true
  own : ∀ i y, old i = some y → sleeps y ∧ a[i]? = some (twin y) ∧ b[i]? = some y
theorem RelG.set {old : Nat → Option GenState} {a b : Array GenState} {g : Nat} {x : GenState} (r : RelG old a b) (hg : old g = none) (hx : flatG x = true) : RelG old (a.setIfInBounds g x) (b.setIfInBounds g x) := by
  refine ⟨by simp [r.size], fun i hi => ?_, fun i y hy => ?_⟩
  · obtain ⟨e, fl⟩ := r.oth i hi
    by_cases h : g = i
    · subst h
      refine ⟨by rw [Array.getElem?_setIfInBounds_self, Array.getElem?_setIfInBounds_self, r.size], fun z hz => ?_⟩
      rw [Array.getElem?_setIfInBounds_self] at hz
      split at hz
      · cases hz; exact hx
      · cases hz
    · rw [Array.getElem?_setIfInBounds_ne h, Array.getElem?_setIfInBounds_ne h]
      exact ⟨e, fl⟩
  · have h : g ≠ i := fun h => by rw [h] at hg; rw [hg] at hy; cases hy
    rw [Array.getElem?_setIfInBounds_ne h, Array.getElem?_setIfInBounds_ne h]
    exact r.own i y hy
theorem RelG.lt {old : Nat → Option GenState} {a b : Array GenState} {i : Nat} {y : GenState} (r : RelG old a b) (h : old i = some y) : i < a.size := by
  obtain ⟨_, e, _⟩ := r.own i y h
  exact (Array.getElem?_eq_some_iff.mp e).1
theorem RelG.push {old : Nat → Option GenState} {a b : Array GenState} {x : GenState} (r : RelG old a b) (hx : flatG x = true) : RelG old (a.push x) (b.push x) := by
  refine ⟨by simp [r.size], fun i hi => ?_, fun i y hy => ?_⟩
  · obtain ⟨e, fl⟩ := r.oth i hi
    rw [Array.getElem?_push, Array.getElem?_push, r.size, e]
    refine ⟨rfl, fun z hz => ?_⟩
    split at hz
    · cases hz; exact hx
    · exact fl z hz
  · have h := r.lt hy
    obtain ⟨s, e1, e2⟩ := r.own i y hy
    have n1 : ¬ i = a.size := Nat.ne_of_lt h
    rw [Array.getElem?_push, Array.getElem?_push, r.size, if_neg n1, if_neg n1]
    exact ⟨s, e1, e2⟩
/-- asleep: old or its frames are flat -/
theorem RelG.at {old : Nat → Option GenState} {a b : Array GenState} {g : Nat} {x : GenState} (r : RelG old a b) (h : a[g]? = some x) : (old g = none ∧ b[g]? = some x ∧ flatG x = true) ∨ ∃ y, old g = some y ∧ sleeps y ∧ x = twin y ∧ b[g]? = some y := by
  cases e : old g with
  | none =>
    obtain ⟨e1, e2⟩ := r.oth g e
    exact .inl ⟨rfl, e1.trans h, e2 x h⟩
  | some y =>
    obtain ⟨s, e1, e2⟩ := r.own g y e
    rw [h] at e1
    exact .inr ⟨y, rfl, s, by cases e1; rfl, e2⟩
theorem no_run {M : Model} {Γ : PySem.Ctx} {p : Pos} {t : Sem PySem.Fin} {fs : List Frame} {s s' : Shared} {e : End} (h : Runs M Γ p t fs s e s') (w : String) (ht : t = .unsupported w) : False := by
  induction h with
  | segRet _ _ ih1 ih2 => exact ih1 ht
  | segGen _ _ ih1 ih2 => exact ih1 ht
  | segSuspOut _ _ ih => exact ih ht
  | segSuspGen _ _ _ _ ih1 ih2 => exact ih1 ht
  | _ => cases ht
theorem runs_keep {M : Model} {old : Nat → Option GenState} {Γ : PySem.Ctx} {p : Pos} {t : Sem PySem.Fin} {fs : List Frame} {s s' : Shared} {e : End} (h : Runs M Γ p t fs s e s') :
    flatF fs = true → ∀ G, RelG old s.gens G → ∃ G', RelG old s'.gens G' ∧ Runs M Γ p t fs { s with gens := G } e { s' with gens := G' } ∧ flatE e = true := by
  induction h with
  | done => intro hf G r; exact ⟨G, r, .done, rfl⟩
  | raise => intro hf G r; exact ⟨G, r, .raise, rfl⟩
  | again q _ ih => intro hf G r; obtain ⟨G', r', h', fe⟩ := ih hf G r; exact ⟨G', r', .again q h', fe⟩
  | rule _ ih => intro hf G r; obtain ⟨G', r', h', fe⟩ := ih hf G r; exact ⟨G', r', .rule h', fe⟩
  | «at» _ ih => intro hf G r; obtain ⟨G', r', h', fe⟩ := ih hf G r; exact ⟨G', r', .at h', fe⟩
  | load q _ ih => intro hf G r; obtain ⟨G', r', h', fe⟩ := ih hf G r; exact ⟨G', r', .load q h', fe⟩
  | update q _ ih => intro hf G r; obtain ⟨G', r', h', fe⟩ := ih hf G r; exact ⟨G', r', .update q h', fe⟩
  | loadIfAlive _ ih => intro hf G r; obtain ⟨G', r', h', fe⟩ := ih hf G r; exact ⟨G', r', .loadIfAlive h', fe⟩
  | point _ ih => intro hf G r; obtain ⟨G', r', h', fe⟩ := ih hf G r; exact ⟨G', r', .point h', fe⟩
  | alloc _ ih => intro hf G r; obtain ⟨G', r', h', fe⟩ := ih hf G r; exact ⟨G', r', .alloc h', fe⟩
  | fresh _ ih => intro hf G r; obtain ⟨G', r', h', fe⟩ := ih hf G r; exact ⟨G', r', .fresh h', fe⟩
  | ask _ ih => intro hf G r; obtain ⟨G', r', h', fe⟩ := ih hf G r; exact ⟨G', r', .ask h', fe⟩
  | choose q _ ih => intro hf G r; obtain ⟨G', r', h', fe⟩ := ih hf G r; exact ⟨G', r', .choose q h', fe⟩
  | os _ ih => intro hf G r; obtain ⟨G', r', h', fe⟩ := ih hf G r; exact ⟨G', r', .os h', fe⟩
  | handled _ ih => intro hf G r; obtain ⟨G', r', h', fe⟩ := ih hf G r; exact ⟨G', r', .handled h', fe⟩
  | stack _ ih => intro hf G r; obtain ⟨G', r', h', fe⟩ := ih hf G r; exact ⟨G', r', .stack h', fe⟩
  | thread _ ih => intro hf G r; obtain ⟨G', r', h', fe⟩ := ih hf G r; exact ⟨G', r', .thread h', fe⟩
  | genState q _ ih =>
    intro hf G r
    obtain ⟨G', r', h', fe⟩ := ih hf G r
    rcases r.at q with ⟨_, q', _⟩ | ⟨y, _, _, rfl, q'⟩
    · exact ⟨G', r', .genState q' h', fe⟩
    · rw [twin_seen] at h'
      exact ⟨G', r', .genState q' h', fe⟩
  | newGen _ ih =>
    intro hf G r
    obtain ⟨G', r', h', fe⟩ := ih hf _ (r.push rfl)
    rw [← r.size] at h'
    exact ⟨G', r', .newGen h', fe⟩
  | call _ _ ih1 ih2 =>
    intro hf G r
    obtain ⟨G1, r1, h1, _⟩ := ih1 rfl G r
    obtain ⟨G', r', h', fe⟩ := ih2 hf G1 r1
    exact ⟨G', r', .call h1 h', fe⟩
  | callSusp _ ih1 =>
    intro hf G r
    obtain ⟨G1, r1, h1, fe⟩ := ih1 rfl G r
    exact ⟨G1, r1, .callSusp h1, flatF_app fe rfl⟩
  | yield => intro hf G r; exact ⟨G, r, .yield, rfl⟩
  | resumeFresh q _ qt _ ih1 ih2 =>
    intro hf G r
    rcases r.at q with ⟨o, q', _⟩ | ⟨y, _, sl, ey, _⟩
    · obtain ⟨G1, r1, h1, fe1⟩ := ih1 rfl _ (r.set (x := .running) o rfl)
      obtain ⟨G', r', h', fe⟩ := ih2 hf _ (r1.set o (flatE_state fe1))
      exact ⟨G', r', .resumeFresh q' h1 qt h', fe⟩
    · cases y <;> first | exact sl.elim | cases ey
  | resumeSuspended q hr qt _ ih1 ih2 =>
    intro hf G r
    rcases r.at q with ⟨o, q', fl⟩ | ⟨y, _, sl, ey, _⟩
    · obtain ⟨G1, r1, h1, fe1⟩ := ih1 fl _ (r.set (x := .running) o rfl)
      obtain ⟨G', r', h', fe⟩ := ih2 hf _ (r1.set o (flatE_state fe1))
      exact ⟨G', r', .resumeSuspended q' h1 qt h', fe⟩
    · cases y with
      | suspended k l c p fs cl =>
        unfold twin at ey
        cases ey
        exact (no_run hr "" rfl).elim
      | _ => exact sl.elim
  | resumeJustStarted q v _ ih =>
    intro hf G r
    rcases r.at q with ⟨o, q', _⟩ | ⟨y, _, sl, ey, _⟩
    · obtain ⟨G', r', h', fe⟩ := ih hf G r
      exact ⟨G', r', .resumeJustStarted q' v h', fe⟩
    · cases y <;> first | exact sl.elim | cases ey
  | resumeThrowFresh q _ ih =>
    intro hf G r
    rcases r.at q with ⟨o, q', _⟩ | ⟨y, _, sl, ey, _⟩
    · obtain ⟨G', r', h', fe⟩ := ih hf _ (r.set (x := .finished) o rfl)
      exact ⟨G', r', .resumeThrowFresh q' h', fe⟩
    · cases y <;> first | exact sl.elim | cases ey
  | resumeRunning q _ ih =>
    intro hf G r
    rcases r.at q with ⟨o, q', _⟩ | ⟨y, _, sl, ey, _⟩
    · obtain ⟨G', r', h', fe⟩ := ih hf G r
      exact ⟨G', r', .resumeRunning q' h', fe⟩
    · cases y <;> first | exact sl.elim | cases ey
  | resumeFinished q _ ih =>
    intro hf G r
    rcases r.at q with ⟨o, q', _⟩ | ⟨y, _, sl, ey, _⟩
    · obtain ⟨G', r', h', fe⟩ := ih hf G r
      exact ⟨G', r', .resumeFinished q' h', fe⟩
    · cases y <;> first | exact sl.elim | cases ey
  | segRet _ _ ih1 ih2 =>
    intro hf G r
    obtain ⟨G1, r1, h1, _⟩ := ih1 rfl G r
    obtain ⟨G', r', h', fe⟩ := ih2 hf G1 r1
    exact ⟨G', r', .segRet h1 h', fe⟩
  | segGen _ _ _ _ => intro hf; cases hf
  | segSuspOut q _ ih1 =>
    intro hf G r
    obtain ⟨G1, r1, h1, fe⟩ := ih1 rfl G r
    exact ⟨G1, r1, .segSuspOut q h1, flatF_app fe hf⟩
  | segSuspGen q _ _ _ _ _ =>
    intro hf
    rw [flatF_split hf] at q
    cases q
theorem wakes_keep {M : Model} {old : Nat → Option GenState} {Γ : PySem.Ctx} {p : Pos} {g : Nat} {r : Resume} {s s' : Shared} {res : GenResult} (h : Wakes M Γ p g r s res s') {G : Array GenState} (rel : RelG old s.gens G) :
    ∃ G', RelG old s'.gens G' ∧ Wakes M Γ p g r { s with gens := G } res { s' with gens := G' } := by
  unfold Wakes at h
  split at h
  · exact h.elim
  · rename_i c e
    rcases rel.at e with ⟨o, q', _⟩ | ⟨y, _, sl, ey, _⟩
    · split at h
      · obtain ⟨e₁, s₁, hr, qt, rfl, rfl⟩ := h
        obtain ⟨G1, r1, h1, fe⟩ := runs_keep hr rfl _ (rel.set (x := .running) o rfl)
        refine ⟨_, r1.set o (flatE_state fe), ?_⟩
        unfold Wakes
        rw [show ({ s with gens := G } : Shared).gens[g]? = _ from q']
        exact ⟨e₁, _, h1, qt, rfl, rfl⟩
      · obtain ⟨rfl, rfl⟩ := h
        refine ⟨G, rel, ?_⟩
        unfold Wakes
        rw [show ({ s' with gens := G } : Shared).gens[g]? = _ from q']
        rename_i hv
        dsimp only
        split
        · rename_i z
          cases z
          exact (hv rfl).elim
        · exact ⟨rfl, rfl⟩
        · rename_i z
          cases z
      · obtain ⟨rfl, rfl⟩ := h
        refine ⟨_, rel.set (x := .finished) o rfl, ?_⟩
        unfold Wakes
        rw [show ({ s with gens := G } : Shared).gens[g]? = _ from q']
        exact ⟨rfl, rfl⟩
    · cases y <;> first | exact sl.elim | cases ey
  · rename_i k₀ l₀ c₀ p₀ fs cl e
    obtain ⟨e₁, s₁, hr, qt, rfl, rfl⟩ := h
    rcases rel.at e with ⟨o, q', fl⟩ | ⟨y, _, sl, ey, _⟩
    · obtain ⟨G1, r1, h1, fe⟩ := runs_keep hr fl _ (rel.set (x := .running) o rfl)
      refine ⟨_, r1.set o (flatE_state fe), ?_⟩
      unfold Wakes
      rw [show ({ s with gens := G } : Shared).gens[g]? = _ from q']
      exact ⟨e₁, _, h1, qt, rfl, rfl⟩
    · cases y with
      | suspended k l c p fs cl =>
        unfold twin at ey
        cases ey
        exact (no_run hr "" rfl).elim
      | _ => exact sl.elim
  · rename_i e
    obtain ⟨rfl, rfl⟩ := h
    rcases rel.at e with ⟨o, q', _⟩ | ⟨y, _, sl, ey, _⟩
    · refine ⟨G, rel, ?_⟩
      unfold Wakes
      rw [show ({ s' with gens := G } : Shared).gens[g]? = _ from q']
      exact ⟨rfl, rfl⟩
    · cases y <;> first | exact sl.elim | cases ey
  · rename_i e
    obtain ⟨rfl, rfl⟩ := h
    rcases rel.at e with ⟨o, q', _⟩ | ⟨y, _, sl, ey, _⟩
    · refine ⟨G, rel, ?_⟩
      unfold Wakes
      rw [show ({ s' with gens := G } : Shared).gens[g]? = _ from q']
      exact ⟨rfl, rfl⟩
    · cases y <;> first | exact sl.elim | cases ey
open Sem (wp)
theorem wp_keep {α : Type} (M : Model) (Γ : PySem.Ctx) (old : Nat → Option GenState) (t : Sem α) : ∀ (Q : α → Pos → Shared → Prop) (E : Value → Pos → Shared → Prop) (p : Pos) (s : Shared) (G : Array GenState), RelG old s.gens G → wp M Γ t Q E p s →
    wp M Γ t (fun a p' s' => ∃ s1, RelG old s1.gens s'.gens ∧ s' = { s1 with gens := s'.gens } ∧ Q a p' s1) (fun e p' s' => ∃ s1, RelG old s1.gens s'.gens ∧ s' = { s1 with gens := s'.gens } ∧ E e p' s1) p { s with gens := G } := by
  induction t with
  | pure a => intro Q E p s G r h; exact ⟨s, r, rfl, h⟩
  | raise e => intro Q E p s G r h; exact ⟨s, r, rfl, h⟩
  | unsupported _ => intro Q E p s G _ h; exact h
  | finish _ => intro Q E p s G _ h; exact h
  | rule _ k ih => intro Q E p s G r h; exact ih () Q E p s G r h
  | «at» p' k ih => intro Q E p s G r h; exact ih () Q E p' s G r h
  | load a _ k ih => intro Q E p s G r h; obtain ⟨o, ho, h⟩ := h; exact ⟨o, ho, ih o Q E p s G r h⟩
  | update a _ f k ih => intro Q E p s G r h; exact ⟨h.1, ih () Q E p { s with heap := s.heap.update a f } G r h.2⟩
  | loadIfAlive a k ih => intro Q E p s G r h; exact ih _ Q E p s G r h
  | point _ k ih => intro Q E p s G r h; exact ih () Q E p s G r h
  | register _ _ => intro Q E p s G _ h; exact h
  | alloc o k ih => intro Q E p s G r h; exact ih s.heap.objs.size Q E p { s with heap := s.heap.push o } G r h
  | fresh k ih => intro Q E p s G r h; exact ih s.toks Q E p { s with toks := s.toks + 1 } G r h
  | ask k ih => intro Q E p s G r h; exact ih _ Q E p s G r h
  | choose src m k ih => intro Q E p s G r h; exact ⟨h.1, ih _ Q E p { s with drawn := s.drawn.bump src } G r h.2⟩
  | os q _ k ih => intro Q E p s G r h; exact ih (Os.step s.os q).2 Q E p { s with os := (Os.step s.os q).1 } G r h
  | call c hd _ _ k ih =>
    intro Q E p s G r h
    obtain ⟨x, s', hr, h⟩ := h
    obtain ⟨G', r', h', _⟩ := runs_keep hr rfl G r
    exact ⟨x, _, h', ih x Q E p s' G' r' h⟩
  | handled own k ih => intro Q E p s G r h; exact ih _ Q E p s G r h
  | genState g k ih =>
    intro Q E p s G r h
    obtain ⟨st, hs, h⟩ := h
    rcases r.at hs with ⟨_, q', _⟩ | ⟨y, _, _, rfl, q'⟩
    · exact ⟨st, q', ih _ Q E p s G r h⟩
    · rw [twin_seen] at h
      exact ⟨y, q', ih _ Q E p s G r h⟩
  | newGen c k ih =>
    intro Q E p s G r h
    have z := ih _ Q E p _ _ (r.push (x := .fresh c) rfl) h
    have e := r.size
    show wp M Γ (k G.size) _ _ p _
    rw [e]
    exact z
  | resume g x _ k ih =>
    intro Q E p s G r h
    obtain ⟨res, s', hw, h⟩ := h
    obtain ⟨G', r', h'⟩ := wakes_keep hw r
    exact ⟨res, _, h', ih res Q E p s' G' r' h⟩
  | yield _ _ _ _ => intro Q E p s G _ h; exact h
  | stack k ih => intro Q E p s G r h; exact ih _ Q E p s G r h
  | fork _ _ => intro Q E p s G _ h; exact h
  | thread k ih => intro Q E p s G r h; exact ih _ Q E p s G r h
  | await _ _ _ _ _ => intro Q E p s G _ h; exact h
/-- the sleepers of a table -/
def oldOf (G : Array GenState) (i : Nat) : Option GenState := match G[i]? with
  | some (.suspended k l c p fs cl) => some (.suspended k l c p fs cl)
  | _ => none
theorem oldOf_some {G : Array GenState} {i : Nat} {y : GenState} (h : oldOf G i = some y) : G[i]? = some y ∧ sleeps y := by
  unfold oldOf at h
  split at h
  · rename_i e
    cases h
    exact ⟨e, trivial⟩
  · cases h
theorem relOf (G : Array GenState) : RelG (oldOf G) (G.map twin) G := by
  refine ⟨by simp, fun i hi => ?_, fun i y hy => ?_⟩
  · rw [Array.getElem?_map]
    cases e : G[i]? with
    | none => exact ⟨rfl, fun x hx => by cases hx⟩
    | some x =>
      unfold oldOf at hi
      rw [e] at hi
      cases x with
      | suspended k l c p fs cl => cases hi
      | _ => exact ⟨rfl, fun x hx => by cases hx; rfl⟩
  · obtain ⟨e, s⟩ := oldOf_some hy
    rw [Array.getElem?_map, e]
    exact ⟨s, rfl, rfl⟩
theorem bare_map {G : Array GenState} (h : AllBare G) : AllBare (G.map twin) := fun y hy => by
  obtain ⟨x, hx, rfl⟩ := Array.mem_map.mp hy
  have := h x hx
  cases x <;> exact this
theorem bare_rel {G a b : Array GenState} (r : RelG (oldOf G) a b) (hG : AllBare G) (ha : AllBare a) : AllBare b := fun y hy => by
  obtain ⟨i, hi, e⟩ := Array.mem_iff_getElem.mp hy
  have e2 : b[i]? = some y := by rw [Array.getElem?_eq_getElem hi, e]
  cases o : oldOf G i with
  | none =>
    rw [(r.oth i o).1] at e2
    exact ha y (Array.mem_of_getElem? e2)
  | some z =>
    rw [(r.own i z o).2.2] at e2
    cases e2
    exact hG _ (Array.mem_of_getElem? (oldOf_some o).1)
/-- the promise, kept for the sleepers -/
theorem wpAny_keep {α : Type} {M : Model} {A : Around} {s : Shared} {t : Sem α} {Q : α → Shared → Prop} {E : Value → Shared → Prop} (h : wpAny M A t Q E { s with gens := s.gens.map twin }) :
    wpAny M A t (fun a s' => ∃ s1, RelG (oldOf s.gens) s1.gens s'.gens ∧ s' = { s1 with gens := s'.gens } ∧ Q a s1) (fun e s' => ∃ s1, RelG (oldOf s.gens) s1.gens s'.gens ∧ s' = { s1 with gens := s'.gens } ∧ E e s1) s := fun Γ p hΓ =>
  wp_keep M Γ (oldOf s.gens) t _ _ p { s with gens := s.gens.map twin } s.gens (relOf s.gens) (h Γ p hΓ)
theorem Inv.regen {X : Cx} {pins : List (Addr × Obj)} {σ : List (Option V)} {H : Hp} {s : Shared} {G : Array GenState} (I : Inv X pins σ H s) (h : AllBare G) : Inv X pins σ H { s with gens := G } :=
  ⟨I.ok, I.os, h, I.base, I.loc, I.cell, I.free, I.freeC, I.pin, I.hok, I.len⟩
/-- what sleeps in G sleeps in G' -/
def Still (G G' : Array GenState) : Prop := ∀ (i : Nat) (y : GenState), G[i]? = some y → sleeps y → G'[i]? = some y
theorem still_rel {G a b : Array GenState} (r : RelG (oldOf G) a b) : Still G b := fun i y e sl => by
  have o : oldOf G i = some y := by
    unfold oldOf
    rw [e]
    cases y with
    | suspended k l c p fs cl => rfl
    | _ => exact sl.elim
  exact (r.own i y o).2.2
section
variable {X : Cx} {pins : List (Addr × Obj)} {σ : L2.St} {H : Hp} {s : Shared}
theorem Inv.back {G a b : Array GenState} {s1 s' : Shared} (I1 : Inv X pins σ H s1) (r : RelG (oldOf G) s1.gens s'.gens) (hG : AllBare G) (e : s' = { s1 with gens := s'.gens }) : Inv X pins σ H s' := by
  have z := Inv.regen I1 (bare_rel r hG I1.bare)
  rw [← e] at z
  exact z
theorem PE.still {e : Expr} {te : TE} (h : PE X e te) (hx : ∀ x s, X.xe x s → False) (I : Inv X pins σ H s) {Q : VK} (q : te σ H Q) :
    wpAny (model X.prog X.w) X.A (eval e X.env) (fun u s' => EP X pins σ Q u s' ∧ Still s.gens s'.gens) (fun _ _ => False) s :=
  wpAny_mono (wpAny_keep (h.run pins _ σ H Q (Inv.regen I (bare_map I.bare)) q)) (fun u s' ⟨s1, r, e, v, J, I1, rv, qq⟩ => ⟨⟨v, J, Inv.back (a := #[]) (b := #[]) I1 r I.bare e, rv, qq⟩, still_rel r⟩) fun x s' ⟨s1, _, _, z⟩ => hx x s1 z
theorem PG.still {tg : Expr} {g : TG} (h : PG X tg g) (hx : ∀ x s, X.xe x s → False) (I : Inv X pins σ H s) {v : V} {u : Value} (rv : RelV v u) {Q : L2.St → Hp → Prop} (q : g v σ H Q) :
    wpAny (model X.prog X.w) X.A (assign tg X.env u) (fun _ s' => (∃ σ' H', Inv X pins σ' H' s' ∧ Q σ' H') ∧ Still s.gens s'.gens) (fun _ _ => False) s :=
  wpAny_mono (wpAny_keep (h.run pins _ σ H v u Q (Inv.regen I (bare_map I.bare)) rv q)) (fun _ s' ⟨s1, r, e, σ', J, I1, qq⟩ => ⟨⟨σ', J, Inv.back (a := #[]) (b := #[]) I1 r I.bare e, qq⟩, still_rel r⟩) fun x s' ⟨s1, _, _, z⟩ => hx x s1 z
theorem app_still {D : Addr} {xs : List V} {y : V} {v : Value} (I : Inv X pins σ H s) (hD : H D = some (.lst xs)) (hz : xs.length < sizeLine) (r : RelV y v) :
    wpAny (model X.prog X.w) X.A (call (.builtin "list.append") [.ref D, v]) (fun _ s' => Inv X pins σ (upd H D (.lst (xs ++ [y]))) s' ∧ Still s.gens s'.gens) (fun _ _ => False) s :=
  wpAny_mono (wpAny_keep (app_ok (E := fun _ _ => False) (Q := fun _ s' => Inv X pins σ (upd H D (.lst (xs ++ [y]))) s') (Inv.regen I (bare_map I.bare)) hD hz r fun s' I' => I')) (fun _ s' ⟨s1, r, e, I1⟩ => ⟨Inv.back (a := #[]) (b := #[]) I1 r I.bare e, still_rel r⟩) fun x s' ⟨s1, _, _, z⟩ => z
end
end ZZ
set_option Elab.async false
set_option linter.all false
set_option maxRecDepth 100000
set_option maxHeartbeats 2000000
namespace ZZ
open PySem PySem.Spec L2 PyProof.Rows GenW
abbrev YL : Type := List V → V → Hp → (Hp → Prop) → Prop
abbrev TGz : Type := L2.St → Hp → (YL → (List V → Hp → Prop) → Prop) → Prop
/-- an expression that gives a new generator -/
structure PGenZ (X : Cx) (k : Nat) (e : Expr) (wg : TGz) : Prop where
  run : ∀ (pins : List (Addr × Obj)) (s : Shared) (σ : L2.St) (H : Hp) (R : YL → (List V → Hp → Prop) → Prop), Inv X pins σ H s → wg σ H R →
    wpAny (model X.prog X.w) X.A (eval e X.env) (fun u s' => ∃ J t yl Q, Inv X pins σ J t ∧ R yl Q ∧ GNewZ X.prog X.w k X.stack J t yl Q EF u s') X.xe s
theorem Un.more {fs ex : List Addr} {H J : Hp} {h h' : Heap} {D : Addr} {o : HO} (u : Un fs ex H J h h') (hp : h.get? D = none) (hn : J D = none) : Un fs ex H (upd J D o) h h' where
  keep := u.keep
  slot := u.slot
  free := fun b ob q n x => by rw [upd_ne (fun z => by rw [z, hp] at q; cases q)]; exact u.free b ob q n x
  there := u.there
  tups := fun b xs q => by have z := u.tups b xs q; rw [upd_ne (fun e => by rw [e, hn] at z; cases z)]; exact z
  frzs := fun b o u' q => by have z := u.frzs b o u' q; rw [upd_ne (fun e => by rw [e, hn] at z; cases z)]; exact z
  tbls := fun b ps q => by
    obtain ⟨m, z⟩ := u.tbls b ps q
    exact ⟨m, by rw [upd_ne (fun e => by rw [e, hn] at z; cases z)]; exact z⟩
/-- no longer tracked -/
def delZ (H : Hp) (a : Addr) : Hp := fun b => if b = a then none else H b
theorem delZ_same {H : Hp} {a : Addr} : delZ H a a = none := if_pos rfl
theorem delZ_ne {H : Hp} {a b : Addr} (h : b ≠ a) : delZ H a b = H b := if_neg h
theorem HOk.add {P : Program} {w : World} {H : Hp} {h h' : Heap} {D : Addr} {o : HO} (x : HOk P w H h) (kk : ∀ b u, h.get? b = some u → h'.get? b = some u) (hn : H D = none) (new : ObjOk P w (upd H D o) h' D o) : HOk P w (upd H D o) h' := fun b u e => by
  by_cases hb : b = D
  · rw [hb, upd_same] at e
    cases e
    rw [hb]
    exact new
  · rw [upd_ne hb] at e
    refine (x b u e).stay (fun c v _ q => kk c v q) (fun c q => ?_) fun c xs q => ?_
    · rw [upd_ne (fun z => by rw [z, hn] at q; cases q)]; exact q
    · rw [upd_ne (fun z => by rw [z, hn] at q; cases q)]; exact q
theorem delZ_upd {H : Hp} {D : Addr} {o : HO} : delZ (upd H D o) D = delZ H D := by
  funext b
  by_cases hb : b = D
  · rw [hb, delZ_same, delZ_same]
  · rw [delZ_ne hb, delZ_ne hb, upd_ne hb]
theorem HOk.del {P : Program} {w : World} {H : Hp} {h : Heap} {D : Addr} {xs : List V} (x : HOk P w H h) (hD : H D = some (.lst xs)) : HOk P w (delZ H D) h := fun b o e => by
  have hb : b ≠ D := fun z => by rw [z, delZ_same] at e; cases e
  rw [delZ_ne hb] at e
  refine (x b o e).stay (fun c u _ q => q) (fun c q => ?_) fun c xs' q => ?_
  · rw [delZ_ne (fun z => by rw [z, hD] at q; cases q)]; exact q
  · rw [delZ_ne (fun z => by rw [z, hD] at q; cases q)]; exact q
/-- a list object that holds zs -/
def ObjLst (h : Heap) (D : Addr) (zs : List V) : Prop := zs.length ≤ sizeLine ∧ ∃ its n, Vals zs its ∧ h.get? D = some { cls := .type "list", data := .seq its.toArray n }
/-- [elt for target in g(..)]: Acc: what the new list holds after so many values; D: the new list -/
def tLcY (wg : TGz) (g : TG) (te : TE) (vs : List Nat) : TE := fun σ H Q => wg σ H fun yl Qe => ∃ Acc : List V → List V → Prop, Acc [] [] ∧ (∀ ys zs, Acc ys zs → ys.length < sizeLine) ∧
  (∀ ys x J Vw zs D, yl ys x J Vw → Acc ys zs → J D = none → g x (wipe σ vs) (upd J D (.lst zs)) fun σ2 H2 => wipe σ2 vs = wipe σ vs ∧ te σ2 H2 fun y H4 =>
    ∃ zs', H4 D = some (.lst zs') ∧ zs'.length < sizeLine ∧ Vw (delZ H4 D) ∧ Acc (ys ++ [x]) (zs' ++ [y])) ∧
  (∀ ys J zs D, Qe ys J → Acc ys zs → J D = none → Q (.ref D) (upd J D (.lst zs)))
/-- the list at D holds what Acc tells of the values handed out -/
def RwD (D : Addr) (Acc : List V → List V → Prop) (ys : List V) (h : Heap) : Prop := ∃ zs, ObjLst h D zs ∧ Acc ys zs
section
variable {X : Cx}
theorem lcY_core {pins : List (Addr × Obj)} {s : Shared} {σ : L2.St} {H : Hp} {Q : VK} {elt tg iter : Expr} {scope : Scope} {own : List (Str × Nat)} {pos pos' : Pos} {wg : TGz} {g : TG} {te : TE} {use : Option (Value → Sem Unit)} {Qf : Value → Shared → Prop} {k : Nat}
    (hr : Room (k + 1) X.A) (hN : X.N.Nodup) (I : Inv X pins σ H s) (hi : PGenZ X k iter wg) (ok : BlkOk X.N X.env.scope scope own)
    (hcl : ∀ n, cellsFrom n scope.names (cloFrom X.env.cells scope.names []) = []) (hpc : ∀ h, pushCells h scope.names = h)
    (hg : ∀ (s : Shared) (H : Hp) (C : Addr) (cl : List (Str × Addr)) (fp : List Addr), PG (X.blk s H scope (compEnvC scope cl C X.env) fp) tg g)
    (he : ∀ (s : Shared) (H : Hp) (C : Addr) (cl : List (Str × Addr)) (fp : List Addr), PE (X.blk s H scope (compEnvC scope cl C X.env) fp) elt te) (hs : ∀ x, foldedSetIterable iter X.env x = pure x)
    (h : tLcY wg g te (own.map (·.2)) σ H Q)
    (hRR : ∀ D C s' m H', Inv X pins σ H' s' → Q (.ref D) H' → s'.heap.Ns C m → FpOk X pins H' C → compPost (model X.prog X.w) X.A X.xe use Qf (.ref D) C (.ok .next) s') :
    wpAny (model X.prog X.w) X.A (comprehension (.ListComp elt [⟨tg, iter, [], 0⟩] scope pos) scope X.env pos' (newList []) false (eval iter X.env) use) Qf X.xe s := by
  have hfree : ∀ y ∈ scope.names, y.2 = .free → ∃ c, X.env.cells.lookup y.1 = some c := fun y hy e => by
    rcases ok.free y hy e with k | k
    · exact I.ok.has _ (.inl k)
    · exact I.ok.has _ (.inr k)
  refine wpAny_comprehension_free (use := use) rfl hs (closure_ok hfree) ok.kind (fun y hy e => by rw [ok.uniq y hy, e])
    (thn (hi.run pins s σ H _ I h) fun xv sg hx => ?_)
  obtain ⟨J, t, yl, Qe, It, ⟨Acc, acc0, accL, step, fin⟩, a, gn, c, rfl, ha1, ha2, isg, hgs, hos, bare, nl, keepG, wake⟩ := hx
  refine wpAny_pyIter_gen isg ?_
  refine wpAny_newObj_type (newEnv_comp ?_) (by show 0 ≤ sizeLine; decide)
  generalize hD : sg.heap.objs.size = D
  have tD : t.heap.objs.size ≤ D := by rw [← hD]; exact Nat.le_of_lt (Nat.lt_of_le_of_lt ha1 ha2)
  have tDn : t.heap.get? D = none := by
    cases e : t.heap.get? D with
    | none => rfl
    | some o => exact absurd (Nat.lt_of_lt_of_le (Heap.lt_size e) tD) (Nat.lt_irrefl _)
  have JD : J D = none := It.hok.fresh tD
  generalize hs3 : ({ sg with heap := sg.heap.push { cls := .type "list", data := .seq ([] : List Value).toArray } } : Shared) = s3
  have h3 : s3.heap = sg.heap.push { cls := .type "list", data := .seq ([] : List Value).toArray } := by rw [← hs3]
  have s3D : s3.heap.get? D = some { cls := .type "list", data := .seq ([] : List Value).toArray } := by
    rw [h3, ← hD]
    exact Heap.get?_push_size _ rfl
  have k3 : ∀ b o, t.heap.get? b = some o → s3.heap.get? b = some o := fun b o e => by
    rw [h3]
    exact Heap.get?_push_of_some _ (keepG b o e)
  have sz3 : s3.heap.objs.size = D + 1 := by rw [h3, Heap.size_push, hD]
  -- the heap as the def knows it
  generalize hl : (List.range s3.heap.objs.size).filter (fun b => decide (b ≠ D) && (t.heap.get? b).isNone) = l
  have ml : ∀ b, b ∈ l → b ≠ D ∧ t.heap.get? b = none := fun b hb => by
    rw [← hl] at hb
    have z := (List.mem_filter.mp hb).2
    simpa using z
  have lm : ∀ b o, s3.heap.get? b = some o → b ∉ l → b = D ∨ ∃ o', t.heap.get? b = some o' := fun b o e hb => by
    by_cases hbD : b = D
    · exact .inl hbD
    · cases q : t.heap.get? b with
      | some o' => exact .inr ⟨o', rfl⟩
      | none =>
        refine absurd ?_ hb
        rw [← hl]
        exact List.mem_filter.mpr ⟨List.mem_range.mpr (Heap.lt_size e), by simp [hbD, q]⟩
  generalize hG : PySem.W.hideAll s3.heap l = G
  have gk : ∀ b o, t.heap.get? b = some o → G.get? b = some o := fun b o e => by
    rw [← hG]
    exact PySem.W.hideAll_get l (k3 b o e) fun hb => by rw [(ml b hb).2] at e; cases e
  have gD : G.get? D = some { cls := .type "list", data := .seq ([] : List Value).toArray } := by
    rw [← hG]
    exact PySem.W.hideAll_get l s3D fun hb => (ml D hb).1 rfl
  have g3 : ∀ b o, G.get? b = some o → s3.heap.get? b = some o := fun b o e => by
    rw [← hG] at e
    exact PySem.W.of_hideAll l e
  have gof : ∀ b o, G.get? b = some o → b = D ∨ t.heap.get? b = some o := fun b o e => by
    have e3 := g3 b o e
    have nb : b ∉ l := fun hb => by
      rw [← hG, PySem.W.hideAll_none l hb] at e
      cases e
    rcases lm b o e3 nb with z | ⟨o', z⟩
    · exact .inl z
    · have := k3 b o' z
      rw [e3] at this
      cases this
      exact .inr z
  have gsz : G.objs.size = s3.heap.objs.size := by rw [← hG]; exact PySem.W.hideAll_size l _
  have I3 : Inv X pins σ (upd J D (.lst [])) { t with heap := G, toks := t.toks } := It.un (Un.more (Un.kept gk) tDn JD) (HOk.add It.hok gk JD ⟨Nat.zero_le _, [], 0, .nil, gD⟩)
  have I4 := block_start (fp := []) I3 ok hN (fun b hb => by cases hb)
  have pg := hg { t with heap := G, toks := t.toks } (upd J D (.lst [])) s3.heap.objs.size [] []
  have pe := he { t with heap := G, toks := t.toks } (upd J D (.lst [])) s3.heap.objs.size [] []
  show codeAny _ _ (.compStart (.ListComp elt [⟨tg, iter, [], 0⟩] scope pos) 0 (.ref a) (.ref D) (compEnvC scope (cellsFrom (s3.heap.objs.size + 1) scope.names (cloFrom X.env.cells scope.names [])) s3.heap.objs.size X.env)) (compPost (model X.prog X.w) X.A X.xe use Qf (.ref D) s3.heap.objs.size) { s3 with heap := pushCells (s3.heap.push { cls := .type "dict", data := .dict #[] }) scope.names }
  rw [hcl, hpc] at I4
  rw [hcl, hpc]
  have eC : ({ t with heap := G, toks := t.toks } : Shared).heap.objs.size = s3.heap.objs.size := gsz
  rw [eC] at I4
  generalize hs3b : ({ t with heap := G, toks := t.toks } : Shared) = sb at I3 I4 pg pe
  have hbG : sb.heap = G := by rw [← hs3b]
  have hbo : sb.os = t.os := by rw [← hs3b]
  generalize hC : s3.heap.objs.size = C at I4 pg pe ⊢
  generalize hce : compEnvC scope [] C X.env = ce at I4 pg pe ⊢
  have cL : ce.locals = C := by rw [← hce]; rfl
  have cc : ∀ x, ce.cells.lookup x = none := fun x => by rw [← hce]; rfl
  generalize hH3 : upd J D (.lst []) = H3 at I3 I4 pg pe
  generalize hs4 : ({ s3 with heap := s3.heap.push { cls := .type "dict", data := .dict #[] } } : Shared) = s4
  have h4 : s4.heap = s3.heap.push { cls := .type "dict", data := .dict #[] } := by rw [← hs4]
  have k4 : ∀ b o, (sb.heap.push { cls := .type "dict", data := .dict #[] }).get? b = some o → s4.heap.get? b = some o := fun b o e => by
    rw [hbG] at e
    rw [h4]
    rcases Heap.get?_push_cases e with ⟨z1, z2⟩ | z
    · rw [z1, z2, gsz]
      exact Heap.get?_push_size _ rfl
    · exact Heap.get?_push_of_some _ (g3 b o z)
  have kg4 : ∀ b o, sg.heap.get? b = some o → s4.heap.get? b = some o := fun b o e => by
    rw [h4, h3]
    exact Heap.get?_push_of_some _ (Heap.get?_push_of_some _ e)
  have os4 : s4.os = t.os := by rw [← hs4, ← hs3]; exact hos
  have ge4 : s4.gens = sg.gens := by rw [← hs4, ← hs3]
  have bare4 : AllBare s4.gens := by rw [ge4]; exact bare
  have I5 : Inv (X.blk sb H3 scope ce []) [] (wipe σ (own.map (·.2))) H3 s4 := I4.call' (ch := []) (os4.trans hbo.symm) (Un.kept k4) (I4.hok.kept k4) bare4 fun b hb => by cases hb
  -- what the consumer holds
  have s4D : s4.heap.get? D = some { cls := .type "list", data := .seq ([] : List Value).toArray } := by
    rw [h4]
    exact Heap.get?_push_of_some _ s3D
  have stk : ∀ b, t.heap.objs.size ≤ b → b ∉ frs X.stack := fun b hb z => by
    rcases List.mem_cons.mp (It.stkSub b z) with e | e
    · exact absurd (Nat.lt_of_lt_of_le It.lt (by rw [← e]; exact hb)) (Nat.lt_irrefl _)
    · exact It.nofs hb e
  have Ct : t.heap.objs.size ≤ C := by omega
  have Dlt : D ≠ C := by omega
  have H3D : H3 D = some (.lst []) := by rw [← hH3]; exact upd_same
  have H3n : ∀ b, b ≠ D → H3 b = J b := fun b hb => by rw [← hH3]; exact upd_ne hb
  have neD : ∀ b o, t.heap.get? b = some o → b ≠ D := fun b o e z => by rw [z, tDn] at e; cases e
  -- the generator's own: at a value or at the end, the def's side
  have unB : ∀ {J1 : Hp} {h1 : Heap} {zs : List V}, Un (frs X.stack) [] J J1 t.heap h1 → J1 D = none → (∃ o, h1.get? D = some o) → Un (X.blk sb H3 scope ce []).fs [] H3 (upd J1 D (.lst zs)) sb.heap h1 := fun {J1 h1 zs} u n od => by
    refine ⟨fun b o e n' f x => ?_, fun b o e n' f x => ?_, fun b o e n' x => ?_, fun b o e x => ?_, fun b xs e => ?_, fun b o u' e => ?_, fun b ps e => ?_⟩
    · rw [hbG] at e
      rcases gof b o e with z | z
      · rw [z, H3D] at n'; cases n'
      · exact u.keep b o z (by rw [← H3n b (neD b o z)]; exact n') f x
    · rw [hbG] at e
      rcases gof b o e with z | z
      · rw [z, H3D] at n'; cases n'
      · exact u.slot b o z (by rw [← H3n b (neD b o z)]; exact n') f x
    · rw [hbG] at e
      rcases gof b o e with z | z
      · rw [z, H3D] at n'; cases n'
      · rw [upd_ne (neD b o z)]
        exact u.free b o z (by rw [← H3n b (neD b o z)]; exact n') x
    · rw [hbG] at e
      rcases gof b o e with z | z
      · rw [z]; exact od
      · exact u.there b o z x
    · have hb : b ≠ D := fun z => by rw [z, H3D] at e; cases e
      rw [H3n b hb] at e
      rw [upd_ne hb]
      exact u.tups b xs e
    · have hb : b ≠ D := fun z => by rw [z, H3D] at e; cases e
      rw [H3n b hb] at e
      rw [upd_ne hb]
      exact u.frzs b o u' e
    · have hb : b ≠ D := fun z => by rw [z, H3D] at e; cases e
      rw [H3n b hb] at e
      rw [upd_ne hb]
      exact u.tbls b ps e
  -- and back
  have unG : ∀ {H5 : Hp} {h1 : Heap}, Un (X.blk sb H3 scope ce []).fs [] H3 H5 sb.heap h1 → Un (frs X.stack) [] J (delZ H5 D) t.heap h1 := fun {H5 h1} u => by
    refine ⟨fun b o e n' f x => ?_, fun b o e n' f x => ?_, fun b o e n' x => ?_, fun b o e x => ?_, fun b xs e => ?_, fun b o u' e => ?_, fun b ps e => ?_⟩
    · exact u.keep b o (by rw [hbG]; exact gk b o e) (by rw [H3n b (neD b o e)]; exact n') f x
    · exact u.slot b o (by rw [hbG]; exact gk b o e) (by rw [H3n b (neD b o e)]; exact n') f x
    · rw [delZ_ne (neD b o e)]
      exact u.free b o (by rw [hbG]; exact gk b o e) (by rw [H3n b (neD b o e)]; exact n') x
    · exact u.there b o (by rw [hbG]; exact gk b o e) x
    · have hb : b ≠ D := fun z => by rw [z, JD] at e; cases e
      rw [delZ_ne hb]
      exact u.tups b xs (by rw [H3n b hb]; exact e)
    · have hb : b ≠ D := fun z => by rw [z, JD] at e; cases e
      rw [delZ_ne hb]
      exact u.frzs b o u' (by rw [H3n b hb]; exact e)
    · have hb : b ≠ D := fun z => by rw [z, JD] at e; cases e
      rw [delZ_ne hb]
      exact u.tbls b ps (by rw [H3n b hb]; exact e)
  have noIx : ∀ {h : Heap} {m : Str → Option Value} {x : Str} {u : Value}, Look ce h m x u → ∀ h', Look ce h' m x u := fun {h m x u} lk h' => by
    rcases lk with z | ⟨_, cc', z, _⟩
    · exact .inl z
    · rw [cc] at z; cases z
  -- a state where the generator has stopped, the block's side
  have blkAt : ∀ {s5 s1 : Shared} {H5 J1 : Hp} {zs : List V}, Inv (X.blk sb H3 scope ce []) [] (wipe σ (own.map (·.2))) H5 s5 → ObjLst s5.heap D zs → MidZ X.prog X.w X.stack J t [D, C] a gn s5 s1 J1 →
      Inv (X.blk sb H3 scope ce []) [] (wipe σ (own.map (·.2))) (upd J1 D (.lst zs)) s1 ∧ J1 D = none ∧ J1 C = none := fun {s5 s1 H5 J1 zs} I' hD5 mid => by
    obtain ⟨hz, its, n, rz, eD⟩ := hD5
    obtain ⟨m, hn, lk⟩ := I'.loc
    have hnC : s5.heap.Ns C m := by
      have z : s5.heap.Ns ce.locals m := hn
      rw [cL] at z
      exact z
    obtain ⟨oc, es, ep, eC', dC, rC⟩ := hnC
    obtain ⟨hD1, nD1⟩ := mid.held (D, _) (mem_pinsAt (List.mem_cons_self ..) eD)
    obtain ⟨hC1, nC1⟩ := mid.held (C, oc) (mem_pinsAt (by simp) eC')
    refine ⟨⟨I'.ok, mid.os.trans hbo.symm, mid.bare, unB mid.un nD1 ⟨_, hD1⟩, ⟨m, ?_, fun i x v e1 e2 e3 => ?_⟩, fun x c' e => ?_, ?_, fun x c' e => ?_, fun p hp => ?_, ?_, I'.len⟩, nD1, nC1⟩
    · show s1.heap.Ns ce.locals m
      rw [cL]
      exact ⟨oc, es, ep, hC1, dC, rC⟩
    · obtain ⟨u, r, q⟩ := lk i x v e1 e2 e3
      exact ⟨u, r, noIx q _⟩
    · have z : ce.cells.lookup x = some c' := e
      rw [cc] at z; cases z
    · show upd J1 D (.lst zs) ce.locals = none
      rw [cL, upd_ne (Ne.symm Dlt)]
      exact nC1
    · have z : ce.cells.lookup x = some c' := e
      rw [cc] at z; cases z
    · exact absurd (show p ∈ ([] : List (Addr × Obj)) ++ [] from hp) (by simp)
    · exact HOk.add mid.hok (fun b u q => q) nD1 ⟨hz, its, n, rz, hD1⟩
  have wf : ∀ x s, (X.blk sb H3 scope ce []).xe x s → False := fun x s z => z
  have hA : X.A.frames = some X.stack := It.ok.frames
  have loop : codeAny (model X.prog X.w) X.A (.compLoop (.ListComp elt [⟨tg, iter, [], 0⟩] scope pos) 0 (.ref a) (.ref D) ce) (compPost (model X.prog X.w) X.A X.xe use Qf (.ref D) C) s4 := by
    refine compLoop_any (fun n s' => ∃ yk zs gs H5, n + yk.length = sizeLine ∧ Acc yk zs ∧ Inv (X.blk sb H3 scope ce []) [] (wipe σ (own.map (·.2))) H5 s' ∧ H5 D = some (.lst zs) ∧ s'.heap.IsGen a gn ∧ s'.gens[gn]? = some gs ∧
      gs.Goes (model X.prog X.w) X.A.in1 (EndZ X.prog X.w X.stack J t ⟨[D, C], RwD D Acc⟩ a gn Qe EF) (YitZ X.prog X.w X.stack J t ⟨[D, C], RwD D Acc⟩ a gn yl) n (.send .none) (s'.setGen gn .running)) ?_ sizeLine ⟨[], [], .fresh c, H3, rfl, acc0, I5, H3D, isg.keeps kg4, by rw [ge4]; exact hgs, rfl, ?_⟩
    · rintro n s5 ⟨yk, zk, gs, H5, en, hacck, I6, hD5, ig5, hg5, go5⟩
      have kl := accL yk zk hacck
      obtain ⟨i, rfl⟩ : ∃ i, n = i + 1 := ⟨n - 1, by omega⟩
      have lt5 : gn + 1 ≤ s5.gens.size := (Array.getElem?_eq_some_iff.mp hg5).1
      refine wpAny_gsz lt5 (next_Z hr.hd (by have := hr.dp; omega) I6.nolimit ig5 hg5 go5 (fun v s1 gs' ys x J1 Gs Vw hb hm rx hyl hrw mid hGs hGa hw => ?_) fun s1 h' ys J1 hm mid hrw hQe hk => ?_)
      · intro hsz
        have lt1 : gn < s1.gens.size := by
          have z : gn + 1 ≤ (s1.setGen gn gs').gens.size := hsz
          rw [setGen_size] at z
          exact z
        have ly : ys.length = yk.length := by omega
        obtain ⟨zs, oD, hacc⟩ : RwD D Acc ys s5.heap := hrw
        obtain ⟨I7, nD1, nC1⟩ := blkAt I6 oD mid
        have I8 : Inv (X.blk sb H3 scope ce []) [] (wipe σ (own.map (·.2))) (upd J1 D (.lst zs)) (s1.setGen gn gs') := Inv.regen I7 (allBare_setGen mid.bare hb)
        obtain ⟨oa, nm, qn, hoa, hca, hda, hsa⟩ := mid.gen
        show wpAny (model X.prog X.w) X.A (letOwnedTupleGo tg (.ref a) v) _ _ (s1.setGen gn gs')
        refine go_of (s := s1.setGen gn gs') hoa hca hda (by decide) ?_
        have I9 : Inv (X.blk sb H3 scope ce []) (pinsAt Gs s1.heap) (wipe σ (own.map (·.2))) (upd J1 D (.lst zs)) (s1.setGen gn gs') := I8.pins_of fun p hp => by
          obtain ⟨hb', e'⟩ := of_pinsAt hp
          obtain ⟨q1, q2, q3, o', q4, q5⟩ := hGs p.1 hb'
          rw [e'] at q4
          cases q4
          have nD : p.1 ≠ D := fun z => q2 (by simp [z])
          have nC : p.1 ≠ C := fun z => q2 (by simp [z])
          refine ⟨e', by rw [upd_ne nD]; exact q3, ?_, stk p.1 q1, q5⟩
          show p.1 ≠ ce.locals
          rw [cL]
          exact nC
        refine thnF (PG.still pg wf I9 rx (step ys x J1 Vw zs D hyl hacc nD1)) fun _ s8 ⟨⟨σ8, H8, I10, hw8, q8⟩, st8⟩ => ?_
        refine wpAny_tests_nil ?_
        simp only [if_true]
        refine thnF (PE.still pe wf I10 q8) fun z s10 ⟨⟨yv, H10, I11, r10, zs', hD10, hz10, hV, hacc'⟩, st10⟩ => ?_
        refine thnF (app_still (X := X.blk sb H3 scope ce []) I11 hD10 hz10 r10) fun _ s11 ⟨I12, st11⟩ => ?_
        have I13 : Inv (X.blk sb H3 scope ce []) [] (wipe σ (own.map (·.2))) (upd H10 D (.lst (zs' ++ [yv]))) s11 := by
          refine (Inv.unpinned (pins := []) (pl := pinsAt Gs s1.heap) I12).weak ?_ fun j v e => ?_
          · rw [← hw8, wipe_length]
          · rw [← hw8] at e
            exact (wipe_some e).1
        have hDs : upd H10 D (.lst (zs' ++ [yv])) D = some (.lst (zs' ++ [yv])) := upd_same
        obtain ⟨hz', its, nn, rz, eD⟩ := I13.hok D _ hDs
        obtain ⟨m', hn', _⟩ := I13.loc
        have hnC' : s11.heap.Ns C m' := by
          have z : s11.heap.Ns ce.locals m' := hn'
          rw [cL] at z
          exact z
        obtain ⟨oc, es, ep, eC', dC, rC⟩ := hnC'
        have nC11 : upd H10 D (.lst (zs' ++ [yv])) C = none := by
          have z : upd H10 D (.lst (zs' ++ [yv])) ce.locals = none := I13.free
          rw [cL] at z
          exact z
        have pinG : ∀ b ∈ Gs, ∀ o, s1.heap.get? b = some o → s11.heap.get? b = some o ∧ upd H10 D (.lst (zs' ++ [yv])) b = none := fun b hb' o e =>
          let z := I12.pin (b, o) (List.mem_append_right _ (mem_pinsAt hb' e))
          ⟨z.1, z.2.1⟩
        have wk : WakZ X.prog X.w X.stack J t ⟨[D, C], RwD D Acc⟩ Gs s1 (s11.setGen gn .running) Vw (delZ (upd H10 D (.lst (zs' ++ [yv]))) D) (ys ++ [x]) := by
          refine ⟨by rw [delZ_upd]; exact hV, I13.os.trans hbo, allBare_setGen I13.bare rfl, unG I13.base, HOk.del I13.hok hDs, fun b hb' => ?_, fun p hp => ?_, fun b hb' => ?_, ⟨_, ⟨hz', its, nn, rz, eD⟩, hacc'⟩⟩
          · obtain ⟨q1, q2, q3, o', q4, q5⟩ := hGs b hb'
            obtain ⟨z1, z2⟩ := pinG b hb' o' q4
            refine ⟨fun o e => (pinG b hb' o e).1, ?_⟩
            rw [delZ_ne (fun z => q2 (by simp [z]))]
            exact z2
          · obtain ⟨hb', e'⟩ := of_pinsAt hp
            have e2 : s11.heap.get? p.1 = some p.2 := e'
            refine ⟨e', ?_, fun vv dd => ?_⟩
            · rcases List.mem_cons.mp hb' with z | z
              · rw [z]; exact delZ_same
              · have z : p.1 = C := by simpa using z
                rw [z, delZ_ne (Ne.symm Dlt)]
                exact nC11
            · rcases List.mem_cons.mp hb' with z | z
              · rw [z, eD] at e2
                rw [← Option.some.inj e2] at dd
                cases dd
              · have z : p.1 = C := by simpa using z
                rw [z, eC'] at e2
                rw [← Option.some.inj e2, dC] at dd
                cases dd
          · rcases List.mem_cons.mp hb' with z | z
            · exact ⟨_, by rw [z]; exact eD⟩
            · have z : b = C := by simpa using z
              exact ⟨_, by rw [z]; exact eC'⟩
        obtain ⟨i', ei, sl, go'⟩ := hw _ _ wk
        obtain rfl : i = i' := by omega
        have at8 : (s1.setGen gn gs').gens[gn]? = some gs' := setGen_at lt1
        exact ⟨i, by omega, ys ++ [x], zs' ++ [yv], gs', _, by rw [List.length_append, List.length_singleton]; omega, hacc', I13, hDs, ⟨oa, nm, qn, (pinG a hGa oa hoa).1, hca, hda, hsa⟩, st11 _ _ (st10 _ _ (st8 _ _ at8 sl) sl) sl, go'⟩
      · intro _
        have ly : ys.length = yk.length := by omega
        obtain ⟨zs, oD, hacc⟩ : RwD D Acc ys s5.heap := hrw
        obtain ⟨I7, nD1, nC1⟩ := blkAt I6 oD mid
        have nDt : J1 D = none := nD1
        obtain ⟨hz, its, n, rz, eD⟩ := I7.hok D _ upd_same
        obtain ⟨m, hn, _⟩ := I7.loc
        have hn : s1.heap.Ns ce.locals m := hn
        rw [cL] at hn
        have u1 : Un (frs X.stack) [] J (upd J1 D (.lst zs)) t.heap h' := Un.more (mid.un.trans (Un.kept hk)) tDn nD1
        have I14 : Inv X pins σ (upd J1 D (.lst zs)) { s1.setGen gn .finished with heap := h' } := It.call' (ch := []) mid.os u1 (I7.hok.kept hk) (allBare_setGen mid.bare rfl) fun b hb => by cases hb
        exact hRR D C _ m _ I14 (fin ys J1 zs D hQe hacc nD1) (hn.keeps hk) (It.fpOk Ct (by rw [upd_ne (Ne.symm Dlt)]; exact nC1))
    · refine wake X.A.in1 ⟨[D, C], RwD D Acc⟩ (s4.setGen gn .running) J hr.in1 hA (fun b hb => ?_) kg4 os4 (allBare_setGen bare4 rfl) (UpH.refl J) (Un.kept fun b o e => kg4 b o (keepG b o e)) (It.hok.kept fun b o e => kg4 b o (keepG b o e)) (fun b o e n => n) (fun p hp => ?_) ⟨fun b hb => ?_, [], ⟨Nat.zero_le _, [], 0, .nil, s4D⟩, acc0⟩
      · rcases List.mem_cons.mp hb with z | z
        · rw [z, hD]; exact Nat.le_refl _
        · have z : b = C := by simpa using z
          rw [z, ← hC, sz3, ← hD]
          exact Nat.le_succ _
      · obtain ⟨hb', e'⟩ := of_pinsAt hp
        have e2 : s4.heap.get? p.1 = some p.2 := e'
        rcases List.mem_cons.mp hb' with z | z
        · refine ⟨e', by rw [z]; exact JD, fun vv dd => ?_⟩
          rw [z, s4D] at e2
          rw [← Option.some.inj e2] at dd
          cases dd
        · have z : p.1 = C := by simpa using z
          refine ⟨e', by rw [z]; exact It.hok.fresh Ct, fun vv dd => ?_⟩
          have s4C : s4.heap.get? C = some { cls := .type "dict", data := .dict #[] } := by
            rw [h4, ← hC]
            exact Heap.get?_push_size _ rfl
          rw [z, s4C] at e2
          rw [← Option.some.inj e2] at dd
          cases dd
      · rcases List.mem_cons.mp hb with z | z
        · exact ⟨_, by rw [z]; exact s4D⟩
        · have z : b = C := by simpa using z
          have s4C : s4.heap.get? C = some { cls := .type "dict", data := .dict #[] } := by
            rw [h4, ← hC]
            exact Heap.get?_push_size _ rfl
          exact ⟨_, by rw [z]; exact s4C⟩
  exact codeAny_compStart_list loop (wpAny_pyIter_gen (isg.keeps kg4) loop)
end
end ZZ
set_option Elab.async false
set_option linter.all false
set_option maxRecDepth 100000
set_option maxHeartbeats 1000000
namespace ZZ
open PySem PySem.Spec L2 PyProof.Rows GenW
end ZZ
set_option Elab.async false
set_option linter.all false
set_option maxRecDepth 100000
namespace ZZ
open PySem PySem.Spec L2 PyProof.Rows GenW
section
variable {M : Model} {A : Around} {R : GenEnd} {Y : Protocol} {n : Nat} {s₀ : Shared} {c : Code} {fs : List Frame} {s : Shared} {env : Env} {K : Flow → Sem PySem.Fin} {H : Value → Sem PySem.Fin} {gd : Bool → Bool} {lv : List Value → List Value}
theorem sg_For {tg iter : Expr} {body : List Stmt} {pos : Pos} (hs : ∀ x, foldedSetIterable iter env x = pure x)
    (h : wpAny M (A.over c fs) (eval iter env) (fun x s1 => wpAny M (A.over c fs) (pyIter x) (fun it s2 => ∀ p, Seg M A R Y n s₀ (.forLoop tg it body [] env) (M.den (.forLoop tg it body [] env))
      (.ret (fun r => ((match r with | .ok f => (.pure f : Sem Flow) | .error x => .raise x).onRaise (cameBack env)).wrap K H gd lv) none (gd false) (lv []) c p [] :: fs) s2)
        (fun x s' => Seg M A R Y n s₀ c (H x) fs s') s1) (fun x s' => Seg M A R Y n s₀ c (H x) fs s') s) :
    Seg M A R Y n s₀ c ((exec (.For tg iter body [] pos) env).wrap K H gd lv) fs s := by
  rw [exec_For]
  refine seg_bind_wrap (wpAny_standAt (seg_bind_wrap (wpAny_mono h (fun x s1 h1 => seg_bind_wrap (wpAny_of_eq (hs x) (seg_bind_wrap (wpAny_standAt (seg_bind_wrap (wpAny_holding (wpAny_mono h1 (fun it s2 h2 => ?_) fun _ _ z => z))))))) fun _ _ z => z)))
  exact seg_call h2
end
section
variable {prog : Program} {w : World} {A : Around} {R : GenEnd} {Y : Protocol} {n : Nat} {s₀ : Shared} {fs : List Frame} {s : Shared} {env : Env}
/-- what an exception that leaves the loop does -/
def offLoop (env : Env) (e : Value) : Sem PySem.Fin := (do noteFrame e env; theTreesLotGoes e : Sem Unit).wrap (fun _ => .raise e) .raise id id
theorem sg_forLoop {tg : Expr} {it : Value} {body : List Stmt}
    (h : wpAny (model prog w) (A.over (.forLoop tg it body [] env) fs) (pyNext it) (fun r s1 => match r with
        | none => Seg (model prog w) A R Y n s₀ (.forLoop tg it body [] env) (.pure (.again (.block [] env))) fs s1
        | some v => wpAny (model prog w) (A.over (.forLoop tg it body [] env) fs) (letOwnedTupleGo tg it v) (fun _ s2 => wpAny (model prog w) (A.over (.forLoop tg it body [] env) fs) (assign tg env v) (fun _ s3 =>
          Seg (model prog w) A R Y n s₀ (.forLoop tg it body [] env) ((execs body env).wrap (fun f => match f with
            | .next | .cont => .pure (.again (.forLoop tg it body [] env))
            | .brk => .pure (.done .next)
            | .ret v => .pure (.done (.ret v))) (offLoop env) id id) fs s3)
          (fun x s' => Seg (model prog w) A R Y n s₀ (.forLoop tg it body [] env) (offLoop env x) fs s') s2)
          (fun x s' => Seg (model prog w) A R Y n s₀ (.forLoop tg it body [] env) (offLoop env x) fs s') s1)
      (fun x s' => Seg (model prog w) A R Y n s₀ (.forLoop tg it body [] env) (offLoop env x) fs s') s) :
    Seg (model prog w) A R Y n s₀ (.forLoop tg it body [] env) ((model prog w).den (.forLoop tg it body [] env)) fs s := by
  show Seg _ A R Y n s₀ _ ((forTurn tg it body [] env).onRaise (fun x => do noteFrame x env; theTreesLotGoes x)) fs s
  have bad : ∀ (x : Value) (s' : Shared), Seg (model prog w) A R Y n s₀ (.forLoop tg it body [] env) (offLoop env x) fs s' → Seg (model prog w) A R Y n s₀ (.forLoop tg it body [] env) ((do noteFrame x env; theTreesLotGoes x : Sem Unit).bind fun _ => .raise x) fs s' := fun x s' hx => by
    rw [Sem.bind_eq_wrap]
    exact hx
  rw [Sem.onRaise_eq_wrap]
  unfold forTurn
  refine seg_bind_wrap (wpAny_standAt (seg_bind_wrap (wpAny_onRaise (wpAny_mono h (fun r s1 h1 => ?_) fun x s' hx => wpAny_standAt (bad x s' hx)))))
  cases r with
  | none => exact h1
  | some v =>
    refine seg_bind_wrap (wpAny_mono h1 (fun _ s2 h2 => ?_) fun x s' hx => bad x s' hx)
    refine seg_bind_wrap (wpAny_mono h2 (fun _ s3 h3 => ?_) fun x s' hx => bad x s' hx)
    rw [Sem.bind_eq_wrap', Sem.wrap_wrap]
    rw [Sem.wrap_congr (execs body env) _ _ (K' := fun f => match f with
            | .next | .cont => .pure (.again (.forLoop tg it body [] env))
            | .brk => .pure (.done .next)
            | .ret v => .pure (.done (.ret v))) (H' := offLoop env)
        (fun f => by cases f <;> rfl)
        (fun e => by first | exact Sem.bind_eq_wrap _ _ | (show (do noteFrame e env; theTreesLotGoes e : Sem Unit).bind (fun _ => .raise e) = _; rw [Sem.bind_eq_wrap]; rfl))]
    exact h3
theorem sg_block_nil (h : ∀ c', Seg (model prog w) A R Y n s₀ c' (.pure (.done .next)) fs s) : Seg (model prog w) A R Y n s₀ (.block [] env) ((model prog w).den (.block [] env)) fs s := h _
end
/-- W: by the turn, a measure and the rows so far -/
def tZFor (wi : TI) (g : TG) (tb : TYn) : TYn := fun D ys σ H => wi σ H fun J H1 => ∃ W : Nat → Nat → List V → L2.St → Hp → Prop, (∃ m, W 0 m ys σ H1) ∧ ∀ i m ys σ H, W i m ys σ H →
  (J.stop i H ∧ D.nx ys σ H) ∨ (J.go i H ∧ ∃ N : List V → L2.St → Hp → Prop, (∀ zs σ' H', N zs σ' H' → ∃ m', m' < m ∧ W (i + 1) m' zs σ' H') ∧ ∀ x H', J.yld i H x H' → g x σ H' fun σ2 H2 => tb { D with nx := N, ct := N, bk := D.nx } ys σ2 H2)
section
variable {X : Cx} {body : List Stmt} {tg iter : Expr} {pos : Pos} {wi : TI} {g : TG} {tb : TYn}
theorem gz_for (hp : PassesOwn (model X.prog X.w) X.A X.env X.xe) (hc : X.calm = true) (hx : X.ex = []) (hi : PI X tg iter wi) (hg : PG X tg g) (hb : GZs X body tb)
    (hs : ∀ x, foldedSetIterable iter X.env x = pure x := by intro _; rfl) : GZ X (.For tg iter body [] pos) (tZFor wi g tb) := by
  refine ⟨fun B L ip Re m ys s0 c fs kf jf g0 l0 s σ H D w hm k hI ht => sg_For hs ?_⟩
  rw [w.over]
  refine wpAny_mono (hi.run _ s σ H _ hI.1 ht) (fun v s1 h1 => wpAny_mono h1 (fun itv s2 h2 => ?_) fun x s' q => k.exc m s0 x s' q) fun x s' q => k.exc m s0 x s' q
  obtain ⟨it, fp, tn, J, H2, rfl, I2, T, st2, f2, W, ⟨m0, w0⟩, turn⟩ := h2
  have nL : ∀ b ∈ fp, b ∉ L := fun b hb hL => by
    obtain ⟨o, ho⟩ := hI.2.1 b hL
    exact (f2 b hb).2.2.2.2.2 (b, o) (List.mem_append_right _ (List.mem_append_left _ (mem_pinsAt hL ho))) rfl
  have stat : ∀ {H' : Hp} (s0' : Shared), (∀ b ∈ fp, H' b = none) → ∀ b ∈ fp, FpOk X (pinsAt L s0'.heap ++ ip) H' b := fun {H'} s0' hn b hb => by
    obtain ⟨_, q2, q3, q4, q5, q6⟩ := f2 b hb
    refine ⟨hn b hb, q2, q3, q4, q5, fun p hp => ?_⟩
    rcases List.mem_append.mp hp with z | z
    · exact q6 p (List.mem_append_left _ z)
    · rcases List.mem_append.mp z with y | y
      · exact fun e => nL b hb (by rw [← e]; exact (of_pinsAt y).1)
      · exact q6 p (List.mem_append_right _ (List.mem_append_right _ y))
  intro p
  have wl := fun (kr : Result → Sem PySem.Fin) => wc_loop (kr := kr) (c2 := .forLoop tg (.ref it) body [] X.env) (l1 := l0 []) (l2 := []) (p := p) w rfl rfl
  suffices go : ∀ (n i m : Nat) (ys : List V) (s0 s : Shared) (σ : L2.St) (H : Hp), m + ys.length = sizeLine → W i n ys σ H → tn i s.heap → (∀ b ∈ fp, H b = none) → Gz X L s0 ip ys σ H s →
      Seg (model X.prog X.w) B Re (YPz X L D.yl) m s0 (.forLoop tg (.ref it) body [] X.env) ((model X.prog X.w).den (.forLoop tg (.ref it) body [] X.env))
        (.ret (fun r => ((match r with | .ok f => (.pure f : Sem Flow) | .error x => .raise x).onRaise (cameBack X.env)).wrap kf jf g0 l0) none (g0 false) (l0 []) c p [] :: fs) s from
    go m0 0 m ys s0 s2 σ H2 hm w0 st2 (fun b hb => (f2 b hb).1) ⟨I2, hI.2⟩
  intro n
  induction n using Nat.strongRecOn with
  | ind n ih =>
    intro i m ys s0 s3 σ3 H3 hm w3 st3 fr3 hI3
    have bad : ∀ (m : Nat) (s0 : Shared) (x : Value) (s1 : Shared), X.xe x s1 → Seg (model X.prog X.w) B Re (YPz X L D.yl) m s0 (.forLoop tg (.ref it) body [] X.env) (offLoop X.env x)
        (.ret (fun r => ((match r with | .ok f => (.pure f : Sem Flow) | .error x => .raise x).onRaise (cameBack X.env)).wrap kf jf g0 l0) none (g0 false) (l0 []) c p [] :: fs) s1 := fun m s0 x s1 q => by
      refine seg_wrap ?_
      rw [(wl _).over]
      refine wpAny_bind (wpAny_mono (hp x s1 q) (fun _ s2 z => wpAny_theTreesLotGoes ?_) fun y s2 z => ?_)
      · exact seg_leaf (.error x) (z_back w k z)
      · exact seg_leaf (.error y) (z_back w k z)
    refine sg_forLoop ?_
    rw [(wl _).over]
    rcases turn i n ys σ3 H3 w3 with ⟨stop, qn⟩ | ⟨go, N, hN, step⟩
    · refine wpAny_mono (T.done X rfl rfl rfl hc i _ s3 σ3 H3 X.xe hI3.1 (stat s0 fr3) st3 stop) (fun r s4 ⟨hr, I4⟩ => ?_) fun x s' q => bad m s0 x s' q
      subst hr
      exact seg_again rfl (sg_block_nil fun c' => seg_leaf (.ok .next) (k.ok m ys s0 s4 .next hm ⟨σ3, H3, ⟨I4, hI3.2⟩, qn⟩))
    · refine wpAny_mono (T.item X rfl rfl rfl hc i _ s3 σ3 H3 X.xe hI3.1 (stat s0 fr3) st3 go) (fun r s4 ⟨u, hr, h4⟩ => ?_) fun x s' q => bad m s0 x s' q
      subst hr
      refine wpAny_mono h4 (fun _ s5 ⟨x, H5, I5, r5, y5, st5, fr5⟩ => ?_) fun x s' q => bad m s0 x s' q
      have I5' := I5.pinned (stat s0 fr5) (T.obj _ _ st5)
      refine wpAny_mono (hg.run _ s5 σ3 H5 x u _ I5' r5 (step x H5 y5)) (fun _ s6 ⟨σ6, H6, I6, q6⟩ => ?_) fun x s' q => bad m s0 x s' q
      rw [List.append_assoc] at I6
      have wl2 : ∀ (kr : Result → Sem PySem.Fin), WCz X L (ip ++ pinsAt fp s5.heap) B (.forLoop tg (.ref it) body [] X.env) (.ret kr none (g0 false) (l0 []) c p [] :: fs) id := fun kr =>
        ⟨(wl kr).over, (wl kr).split, (wl kr).guard, (wl kr).gd, fun q hq => by
          rcases List.mem_append.mp hq with z | z
          · exact w.young q z
          · have hb := (of_pinsAt z).1
            refine ⟨?_, nL _ hb⟩
            rcases (f2 _ hb).2.2.2.1 with y | y
            · rw [hx] at y; cases y
            · exact y⟩
      refine hb.run B L (ip ++ pinsAt fp s5.heap) Re m ys s0 _ _ _ _ id id s6 σ6 H6 { D with nx := N, ct := N, bk := D.nx } (wl2 _) hm ⟨fun j zs s7 s8 f hj q => ?_, fun j s7 x s8 q => bad j s7 x s8 q⟩ ⟨I6, hI3.2⟩ q6
      have off : ∀ {zs : List V} {τ : L2.St} {K : Hp} {s7 s8 : Shared}, Gz X L s7 (ip ++ pinsAt fp s5.heap) zs τ K s8 → Gz X L s7 ip zs τ K s8 ∧ tn (i + 1) s8.heap ∧ ∀ b ∈ fp, K b = none := fun {zs τ K s7 s8} ⟨I, lv⟩ => by
        rw [← List.append_assoc] at I
        refine ⟨⟨I.unpinned, lv⟩, T.keep _ _ _ st5 fun b hb o e => (I.pin (b, o) (List.mem_append_right _ (List.mem_append_right _ (mem_pinsAt hb e)))).1, fun b hb => ?_⟩
        obtain ⟨o, e, d⟩ := T.obj _ _ st5 b hb
        exact (I.pin (b, o) (List.mem_append_right _ (List.mem_append_right _ (mem_pinsAt hb e)))).2.1
      cases f with
      | next =>
        obtain ⟨τ, K, IK, nK⟩ := q
        obtain ⟨i', lt, hi'⟩ := hN zs τ K nK
        obtain ⟨o1, o2, o3⟩ := off IK
        exact seg_again rfl (ih i' lt (i + 1) j zs s7 s8 τ K hj hi' o2 o3 o1)
      | cont =>
        obtain ⟨τ, K, IK, nK⟩ := q
        obtain ⟨i', lt, hi'⟩ := hN zs τ K nK
        obtain ⟨o1, o2, o3⟩ := off IK
        exact seg_again rfl (ih i' lt (i + 1) j zs s7 s8 τ K hj hi' o2 o3 o1)
      | brk =>
        obtain ⟨τ, K, IK, z⟩ := q
        exact seg_leaf (.ok .next) (k.ok j zs s7 s8 .next hj ⟨τ, K, (off IK).1, z⟩)
      | ret u =>
        obtain ⟨x7, τ, K, IK, r7, z⟩ := q
        exact seg_leaf (.ok (.ret u)) (k.ok j zs s7 s8 (.ret u) hj ⟨x7, τ, K, (off IK).1, r7, z⟩)
end
def gforD (g : GD) (b : DGn) : List D → DGn
  | [] => fun out sl ce => (out, .nx sl ce)
  | d :: ds => fun out sl ce => match g d sl with
    | none => (out, .stuck)
    | some sl1 => match b out sl1 ce with
      | (o', .nx sl2 ce2) => gforD g b ds o' sl2 ce2
      | (o', .ct sl2 ce2) => gforD g b ds o' sl2 ce2
      | (o', .bk sl2 ce2) => (o', .nx sl2 ce2)
      | r => r
def gFor (fi : DI) (g : GD) (b : DGn) : DGn := fun out sl ce => match fi sl ce with
  | .ok ds ce' => gforD g b ds out sl ce'
  | .exc c es ce' => (out, .exc c es sl ce')
  | .stuck => (out, .stuck)
theorem gr_forD {g : GD} {b : DGn} (hb : Grows b) : ∀ ds, Grows (gforD g b ds)
  | [] => fun out sl ce => List.prefix_refl out
  | d :: ds => fun out sl ce => by
    have ih := gr_forD (g := g) hb ds
    unfold gforD
    cases g d sl with
    | none => exact List.prefix_refl out
    | some sl1 =>
      have hb' := hb out sl1 ce
      dsimp only
      obtain ⟨o2, o, e⟩ : ∃ o2 o, b out sl1 ce = (o2, o) := ⟨_, _, rfl⟩
      rw [e] at hb' ⊢
      cases o with
      | nx sl2 ce2 => exact hb'.trans (ih o2 sl2 ce2)
      | ct sl2 ce2 => exact hb'.trans (ih o2 sl2 ce2)
      | bk sl2 ce2 => exact hb'
      | rt v ce2 => exact hb'
      | exc x es sl2 ce2 => exact hb'
      | stuck => exact hb'
theorem gr_for {fi : DI} {g : GD} {b : DGn} (hb : Grows b) : Grows (gFor fi g b) := fun out sl ce => by
  unfold gFor
  cases fi sl ce with
  | ok ds ce' => exact gr_forD hb ds out sl ce'
  | exc c es ce' => exact List.prefix_refl out
  | stuck => exact List.prefix_refl out
section
variable {X : Cx} {Z : Zy} {W : WX} {c0 : List Cell} {sts : List Stmt} {gb : DGn} {tg iter : Expr} {fi : DI} {ix : List Nat} {g : GD} {pos : Pos}
theorem dz_for (hp : PassesOwn (model X.prog X.w) X.A X.env X.xe) (hi : PI X tg iter (tI Z W fi)) (hg : PG X tg (tG Z ix g)) (hb : GZs X sts (tZd Z W c0 gb)) (gg : Grows gb) (hc : X.calm = true := by rfl) (hx : X.ex = [] := by rfl)
    (hs : ∀ x, foldedSetIterable iter X.env x = pure x := by intro _; rfl) : GZ X (.For tg iter sts [] pos) (tZd Z W c0 (gFor fi g gb)) := by
  refine gz_weak (gz_for hp hc hx hi hg hb hs) fun D ys σ H ⟨A, F, sl, ce, out, so, hs, r, y, p⟩ => ⟨A, F, sl, ce, so, hs, ?_⟩
  unfold gFor at p y
  cases e : fi sl ce with
  | stuck => rw [e] at p; exact (p A F ys (List.prefix_refl _) (Same.refl _) r).elim
  | exc c es ce1 =>
    rw [e] at p
    exact fun A1 F1 H1 dx p1 e1 s1 x1 => p A F ys (List.prefix_refl _) (Same.refl _) r A1 F1 H1 σ dx p1 e1 s1 (hs.mono p1 e1) x1
  | ok ds ce1 =>
    rw [e] at p y
    dsimp only at p y
    intro A1 F1 H1 J p1 e1 so1 hJ
    refine ⟨fun i m ys σ H => m = ds.length - i ∧ i ≤ ds.length ∧ ∃ A F sl ce out, Same F1 F ∧ SO Z.toZx A F ce H ∧ SL Z A F sl σ ∧ Reps Z.toZx F out ys ∧ AtY Z A F c0 (gforD g gb (ds.drop i) out sl ce).1 D ∧ PostG Z A F W D.toG (gforD g gb (ds.drop i) out sl ce),
      ⟨ds.length, rfl, Nat.zero_le _, A1, F1, sl, ce1, out, Same.refl _, so1, hs.mono p1 e1, r.mono e1, y.mono p1 e1, p.mono p1 e1⟩, ?_⟩
    rintro i m ys σ H ⟨rfl, hi, A, F, sl, ce, out, eF, so, hs, r, y, p⟩
    obtain ⟨j1, j2⟩ := hJ F H i eF so.sub
    by_cases hlt : i < ds.length
    · have hd : ds[i]? = some ds[i] := List.getElem?_eq_getElem hlt
      obtain ⟨go, yl⟩ := j2 _ hd
      refine .inr ⟨go, fun ys σ H => i + 1 ≤ ds.length ∧ ∃ A F sl ce out, Same F1 F ∧ SO Z.toZx A F ce H ∧ SL Z A F sl σ ∧ Reps Z.toZx F out ys ∧ AtY Z A F c0 (gforD g gb (ds.drop (i + 1)) out sl ce).1 D ∧ PostG Z A F W D.toG (gforD g gb (ds.drop (i + 1)) out sl ce), fun ys' σ' H' q => ⟨ds.length - (i + 1), by omega, rfl, q⟩, fun x H' hy => ?_⟩
      rw [List.drop_eq_getElem_cons hlt] at p y
      have fin : ∀ F2 H2, Same F F2 → SO Z.toZx A F2 ce H2 → Rep Z.toZx F2 ds[i] x → tG Z ix g x σ H2 fun σ2 H3 => tZd Z W c0 gb { D with nx := fun ys σ H => i + 1 ≤ ds.length ∧ ∃ A F sl ce out, Same F1 F ∧ SO Z.toZx A F ce H ∧ SL Z A F sl σ ∧ Reps Z.toZx F out ys ∧ AtY Z A F c0 (gforD g gb (ds.drop (i + 1)) out sl ce).1 D ∧ PostG Z A F W D.toG (gforD g gb (ds.drop (i + 1)) out sl ce), ct := fun ys σ H => i + 1 ≤ ds.length ∧ ∃ A F sl ce out, Same F1 F ∧ SO Z.toZx A F ce H ∧ SL Z A F sl σ ∧ Reps Z.toZx F out ys ∧ AtY Z A F c0 (gforD g gb (ds.drop (i + 1)) out sl ce).1 D ∧ PostG Z A F W D.toG (gforD g gb (ds.drop (i + 1)) out sl ce), bk := D.nx } ys σ2 H3 := by
        intro F2 H2 e2 so2 r2
        refine ⟨A, F2, sl, ce, ds[i], so2, hs.mono (List.prefix_refl _) e2, r2, ?_⟩
        unfold gforD at p y
        cases eg : g ds[i] sl with
        | none => rw [eg] at p; exact (p A F ys (List.prefix_refl _) (Same.refl _) r).elim
        | some sl1 =>
          rw [eg] at p y
          refine ⟨sl1, rfl, fun σ' hs' _ => ⟨A, F2, sl1, ce, out, so2, hs', r.mono e2, ?_, ?_⟩⟩
          · dsimp only at y
            obtain ⟨o2, o, eb⟩ : ∃ o2 o, gb out sl1 ce = (o2, o) := ⟨_, _, rfl⟩
            rw [eb] at y ⊢
            have key : AtY Z A F c0 o2 D := by
              cases o with
              | nx sl2 ce2 => exact y.sub (gr_forD gg _ o2 sl2 ce2)
              | ct sl2 ce2 => exact y.sub (gr_forD gg _ o2 sl2 ce2)
              | bk sl2 ce2 => exact y
              | rt v ce2 => exact y
              | exc x es sl2 ce2 => exact y
              | stuck => exact y
            exact key.mono (List.prefix_refl _) e2
          · dsimp only at p y
            have p2 := p.mono (List.prefix_refl _) e2
            have y2 := y.mono (List.prefix_refl _) e2
            obtain ⟨o2, o, eb⟩ : ∃ o2 o, gb out sl1 ce = (o2, o) := ⟨_, _, rfl⟩
            rw [eb] at p2 y2 ⊢
            intro A0 F0 ys0 p0 e0 r0
            cases o with
            | nx sl2 ce2 => exact fun A3 F3 H3 σ3 p3 e3 so3 hs3 => ⟨hlt, A3, F3, sl2, ce2, o2, ((eF.trans e2).trans e0).trans e3, so3, hs3, r0.mono e3, y2.mono (p0.trans p3) (e0.trans e3), p2.mono (p0.trans p3) (e0.trans e3)⟩
            | ct sl2 ce2 => exact fun A3 F3 H3 σ3 p3 e3 so3 hs3 => ⟨hlt, A3, F3, sl2, ce2, o2, ((eF.trans e2).trans e0).trans e3, so3, hs3, r0.mono e3, y2.mono (p0.trans p3) (e0.trans e3), p2.mono (p0.trans p3) (e0.trans e3)⟩
            | bk sl2 ce2 => exact p2 A0 F0 ys0 p0 e0 r0
            | rt v ce2 => exact p2 A0 F0 ys0 p0 e0 r0
            | exc c es sl2 ce2 => exact p2 A0 F0 ys0 p0 e0 r0
            | stuck => exact p2 A0 F0 ys0 p0 e0 r0
      rcases yl x H' hy with ⟨rx, rfl⟩ | ⟨q, o, hq, rfl, rx⟩
      · exact fin F _ (Same.refl _) so rx
      · exact fin _ _ (same_up (so.fnone hq)) (so.new hq) rx
    · have ei : i = ds.length := by omega
      refine .inl ⟨j1 ei, ?_⟩
      rw [ei, List.drop_length] at p
      exact p A F ys (List.prefix_refl _) (Same.refl _) r A F H σ (List.prefix_refl _) (Same.refl _) so hs
end
end ZZ
set_option Elab.async false
set_option linter.all false
set_option maxRecDepth 100000
namespace ZZ
open PySem PySem.Spec L2 PyProof.Rows
end ZZ
set_option Elab.async false
set_option linter.all false
set_option maxRecDepth 100000
set_option maxHeartbeats 2000000
namespace ZZ
open PySem PySem.Spec PySem.W PyProof.Rows L2 Builtin
end ZZ
namespace ZZ
open PySem PySem.Spec PySem.W PyProof.Rows L2 Builtin
end ZZ
namespace ZZ
open PySem PySem.Spec PySem.W PyProof.Rows L2
end ZZ
set_option Elab.async false
set_option linter.all false
set_option maxRecDepth 100000
namespace PySem
open Sem (wp)
end PySem
namespace L2
open PySem PySem.Spec PyProof.Rows
def ZHeldS (z TI TO i1 i2 b : Addr) (w : Str) (t : Tok) (i : Nat) (H : Hp) (h : Heap) : Prop :=
  IsPair h TI (.ref i1) (.ref i2) ∧ (∃ x y, IsPair h TO x y) ∧ h.IsStrIter i1 (strIterType w) w t i ∧ h.IsListIter i2 b i ∧ (IsZip h z TI TO .none ∨ ∃ T f xs, IsZipHeld h z TI TO T f ∧ H T = some (.tup xs))
section
variable {X : Cx} {pins : List (Addr × Obj)} {σ : L2.St} {H : Hp} {s : Shared} {z TI TO i1 i2 b q : Addr} {i : Nat} {w : Str} {t : Tok} {ys : List V} {y : V} {c : Nat} {A A1 : Around} {E : Value → Shared → Prop}
theorem ZHeldS.lt (st : ZHeldS z TI TO i1 i2 b w t i H s.heap) : ∀ c ∈ [z, TI, TO, i1, i2], c < s.heap.objs.size := by
  obtain ⟨hTI, ⟨x0, y0, hTO⟩, ⟨o1, h1, _⟩, ⟨o2, h2, _⟩, hz⟩ := st
  have hzl : z < s.heap.objs.size := by
    rcases hz with hz | ⟨T, f, vs, hz, _⟩
    · exact Heap.lt_size hz
    · exact Heap.lt_size hz
  intro c hc
  have e' : c = z ∨ c = TI ∨ c = TO ∨ c = i1 ∨ c = i2 := by simpa using hc
  rcases e' with q | q | q | q | q
  · rw [q]; exact hzl
  · rw [q]; exact Heap.lt_size hTI
  · rw [q]; exact Heap.lt_size hTO
  · rw [q]; exact Heap.lt_size h1
  · rw [q]; exact Heap.lt_size h2
end
end L2
namespace PySem
open Sem (wp)
end PySem
namespace L2
open PySem PySem.Spec PyProof.Rows
end L2
namespace ZZ
open PySem PySem.Spec L2
end ZZ
set_option Elab.async false
set_option linter.all false
set_option maxRecDepth 100000
namespace ZZ
open PySem PySem.Spec L2 L2H
end ZZ
set_option Elab.async false
set_option linter.all false
set_option maxRecDepth 100000
namespace ZZ
open PySem PySem.Spec L2 L2H PyProof.Rows
end ZZ
set_option Elab.async false
set_option linter.all false
set_option maxRecDepth 100000
namespace L2
open PySem PySem.Spec PyProof.Rows ZZ
end L2
namespace ZZ
open PySem PySem.Spec L2
end ZZ
set_option Elab.async false
set_option linter.all false
set_option maxRecDepth 100000
namespace ZZ
open PySem PySem.Spec L2
end ZZ
set_option Elab.async false
set_option linter.all false
set_option maxRecDepth 100000
namespace L2
open PySem PySem.Spec PyProof.Rows
end L2
namespace ZZ
open PySem PySem.Spec L2
end ZZ
set_option Elab.async false
set_option linter.all false
set_option maxRecDepth 100000
namespace ZZ
open PySem PySem.Spec L2
end ZZ
set_option Elab.async false
set_option linter.all false
set_option maxRecDepth 100000
set_option maxHeartbeats 1000000
namespace ZZ
open PySem PySem.Spec L2 PyProof.Rows GenW
section
variable {X : Cx} {Z : Zy} {W : WX} {k n nsl : Nat} {fa : Addr} {x : Str} {p cp pos : Pos} {e : Expr} {es : List Expr} {fs : List DE}
variable {elt tg : Expr} {scope : Scope} {own : List (Str × Nat)} {i : Nat} {body : List Cell → DGn}
theorem delZ_none {H : Hp} {D : Addr} (h : H D = none) : delZ H D = H := by
  funext b
  by_cases e : b = D
  · rw [e, delZ_same, h]
  · rw [delZ_ne e]
end
end ZZ
set_option Elab.async false
set_option linter.all false
set_option maxRecDepth 100000
set_option maxHeartbeats 1000000
namespace ZZ
open PySem PySem.Spec L2 PyProof.Rows GenW
structure GFnY (P : Program) (w : World) (K : PySem.W.Frag) (mg : Str → Option Value) (base : Heap) (k : Nat) (f : Addr) (spb : SpY) : Prop where
  run : ∀ (A : Around) (out : List Env) (s : Shared) (H : Hp) (us : List Value) (vs : List V) (yl : List V → V → Hp → (Hp → Prop) → Prop) (Q : List V → Hp → Prop) (E : XK), Room k A → Env0 P w K mg base A out s H → Vals vs us → spb vs H yl Q E →
    codeAny (model P w) A (.call (.ref f) ⟨us, []⟩) (fun r s' => match r with
      | .ok (.ret u) => ∃ J t, Env0 P w K mg base A out t J ∧ Un (frs out) [] H J s.heap t.heap ∧ t.os = s.os ∧ GNewZ P w k out J t yl Q E u s'
      | _ => False) s
section
variable {P : Program} {w : World} {K : PySem.W.Frag} {mg : Str → Option Value} {base : Heap} {k : Nat} {f : Addr} {qual : Str} {N ps : List Str}
theorem gfn_ofY {x : Str} {st : Stmt} {spb : SpY} {fd : FuncData} (Fn : Fun K x qual st f fd) (G : GScope N ps (defScope st)) (hcl : ∀ n, cellsFrom n (defScope st).names [] = [])
    (hbind : ∀ (kV doc pm : Value) (an : Option Addr) (cdv ct : Value) (us : List Value), us.length = ps.length → bindArgs (PySem.W.fnOf x qual (defArgs st) (defBody st) (defScope st) .none kV doc pm an cdv ct) ⟨us, []⟩ = pure (ps.zip us))
    (len : ∀ vs H yl Q E, spb vs H yl Q E → vs.length = ps.length)
    (hb : ∀ (cdv : Value) (B : Around) (out : List Env) (u : Shared) (H : Hp) (xs : List V) (yl : List V → V → Hp → (Hp → Prop) → Prop) (Q : List V → Hp → Prop) (E : XK) (pn : List (Addr × Obj)), Room k (B.deeper (envOfC qual (defScope st) u.heap.objs.size f cdv)) → spb xs H yl Q E →
      ∃ y, GZs (gcxOf P w K mg base N qual (defScope st) f cdv B out u H E pn) (defBody st) y ∧ ∀ H2, UpH H H2 → y { nx := fun l _ J => Q l J, rt := fun l v J => v = .non ∧ Q l J, yl := yl } [] (start N xs) H2) : GFnY P w K mg base (k + 1) f spb := by
  obtain ⟨oc, od, kV, doc, pm, an, cdv, ct, osl, rfl, lk, hcd⟩ := Fn.ex
  refine ⟨fun A out s H us vs yl Q E hr e0 r hq => ?_⟩
  have lv := len _ _ _ _ _ hq
  have lu : us.length = ps.length := r.length.symm.trans lv
  have inK : K.In s.heap := e0.mod.kin.keeps fun c o z => (e0.bs c o z).1
  refine codeAny_call_generator hr.depth (inK _ _ lk) rfl G.co G.gen rfl (PySem.W.codeRec_of inK hcd) ?_
  rw [hbind kV doc pm an cdv ct us lu]
  refine wpAny_pure ?_
  have kin : ∀ q ∈ ps.zip us, (defScope st).names.lookup q.1 = some .local ∨ ((defScope st).names.lookup q.1 = some .cell ∧ ((cellsFrom (s.heap.objs.size + 1) (defScope st).names []).lookup q.1).isSome = true) := fun q hq => by
    rcases G.par q.1 (List.of_mem_zip (a := q.1) (b := q.2) hq).1 with z | z
    · exact .inl z
    · exact .inr ⟨z, PySem.W.cellsFrom_some _ _ _ (.inl z)⟩
  refine wpAny_newFunctionEnv_cells G.kind kin fun env he t fr => ?_
  subst he
  have nl : t.heap.NoLimit := (e0.mod.nolimit.keeps fun c o z => (e0.bs c o z).1).keeps fr.toInCall.keep
  refine ⟨nl, H, s, e0, Un.kept fun _ _ z => z, rfl, ?_⟩
  exact g_beginZ G hcl e0 lv r fr (fun B pn room => hb cdv B out _ _ _ yl Q E pn room hq) rfl rfl rfl fun hp => Heap.get?_push_size _ rfl
theorem dgfnY {Z : Zx} {x : Str} {st : Stmt} {fd : FuncData} {nsl n : Nat} {body : List Cell → DGn} (Fn : Fun K x qual st f fd) (G : GScope N ps (defScope st)) (hcl : ∀ n, cellsFrom n (defScope st).names [] = []) (hN : N.length = nsl) (hn : ps.length = n)
    (hbind : ∀ (kV doc pm : Value) (an : Option Addr) (cdv ct : Value) (us : List Value), us.length = ps.length → bindArgs (PySem.W.fnOf x qual (defArgs st) (defBody st) (defScope st) .none kV doc pm an cdv ct) ⟨us, []⟩ = pure (ps.zip us))
    (hb : ∀ (c0 : List Cell) (cdv : Value) (B : Around) (out : List Env) (u : Shared) (H : Hp) (E : XK) (pn : List (Addr × Obj)), Room k (B.deeper (envOfC qual (defScope st) u.heap.objs.size f cdv)) →
      GZs (gcxOf P w K mg base N qual (defScope st) f cdv B out u H E pn) (defBody st) (tZd Z.z WF c0 (body c0))) : GFnY P w K mg base (k + 1) f (spZd Z body nsl n) := by
  subst hN hn
  refine gfn_ofY Fn G hcl hbind (fun vs H yl Q E ⟨A, F, ce, ds, out, ce2, so, r, l, _⟩ => r.length.symm.trans l) fun cdv B out u H xs yl Q E pn room ⟨A, F, ce, ds, o, ce2, so, r, l, e, hy, hq⟩ => ⟨_, hb ce cdv B out u H E pn room, fun H2 up => ⟨A, F, _, ce, [], so.up up, vreps_start r, (by unfold Reps; rfl), ?_, ?_⟩⟩
  · intro A' F' ce' J es d ys y p' e' so' hk r1 r2 l2
    refine hy A' F' ce' J es d ys y p' e' so' hk r1 r2 ?_
    unfold mkG at e
    rw [gEnd_fst e] at l2
    exact l2
  · exact gEnd_post so.len e hq
end
section
variable {X : Cx} {k : Nat} {fa C : Addr} {m : Str} {o : Expr} {ta : TE} {spb : SpY} {pos apos : Pos}
/-- o.m(), m a generator def of o's class -/
theorem pgen_methY {pl : Sem Bool} (he : PE X o ta) (c : Cls X.K C) (hm : Meth X.K C m fa) (F : GFnY X.prog X.w X.K X.mg X.base k fa spb) (hr : Room k X.A)
    (ht : eval (.Call (.Attribute o m apos) [] [] pos) X.env = (do
      let ov ← eval o X.env
      standAt apos.atName
      let (f, first) ← holding [ov] (getMethod ov m pl)
      callWith pos f first (backTo pos (starEach [] X.env)) (backToKw pos (keywordEach [] X.env))) := by rfl) :
    PGenZ X k (.Call (.Attribute o m apos) [] [] pos) (fun σ H R => ta σ H fun x J => ∃ a dx fs, x = .ref a ∧ J a = some (.ins C dx fs) ∧ fs.lookup m = none ∧ ∃ yl Q, spb [x] J yl Q EF ∧ R yl Q) := by
  refine ⟨fun pins s σ H R I h => ?_⟩
  refine PySem.W.methodCall_KW (pl := pl) (thn (he.run pins s σ H _ I h) fun u s1 ⟨x, H1, I1, rx, a, dx, fs, ex, ea, l, yl, Q, sp, rq⟩ => ?_) ht
  subst ex
  obtain rfl : u = Value.ref a := rx
  refine getmeth_ok I1 ea c hm l ?_
  refine PySem.W.callWith_K0 (first := [.ref a]) I1.kIn hm.kp ?_
  refine wpAny_call (codeAny_mono (F.run X.A X.stack _ H1 [.ref a] [.ref a] yl Q EF hr I1.env0 (.cons rfl .nil) sp) fun r s' hq => ?_)
  cases r with
  | error _ => exact False.elim hq
  | ok fl =>
    cases fl with
    | ret u =>
      obtain ⟨J2, t2, e2, un, os, gm⟩ := hq
      exact ⟨J2, t2, yl, Q, I1.call' (ch := []) os un e2.hok e2.bare (fun b z => by cases z), rq, gm⟩
    | next => exact False.elim hq
    | brk => exact False.elim hq
    | cont => exact False.elim hq
end
/-- [x for x in o.m()], m a generator def of o's class c -/
def eLcIM (c nsl i : Nat) (body : List Cell → DGn) (f : DE) : DE := eBind f fun v sl ce => if (isC c ce v = true ∧ plainV v = true) ∧ i < sl.length then (match mkG nsl (body ce) [v] ce with
  | some (out, ce2) => if out.length < LINE then .ok (.cell ce2.length) (ce2 ++ [.lst out]) else .stuck
  | none => .stuck) else .stuck
section
variable {X : Cx} {Z : Zy} {W : WX} {k c nsl : Nat} {fa : Addr} {m : Str} {o elt tg : Expr} {f : DE} {scope : Scope} {own : List (Str × Nat)} {i : Nat} {body : List Cell → DGn} {pos apos cp : Pos}
theorem lcIM_of (hi : own.map (·.2) = [i]) (hno : m ∉ Z.fl c) {σ : L2.St} {H : Hp} {Q : VK} (h : tE Z W (eLcIM c nsl i body f) σ H Q) :
    tLcY (fun σ H R => tE Z W f σ H fun x J => ∃ a dx fs, x = .ref a ∧ J a = some (.ins (Z.cl c) dx fs) ∧ fs.lookup m = none ∧ ∃ yl Q, spZd Z.toZx body nsl 1 [x] J yl Q EF ∧ R yl Q) (gName i) (tVar i) (own.map (·.2)) σ H Q := by
  refine tE_imp (fun x H1 ⟨A, F, sl, ce, v, so, hs, r, q⟩ => ?_) (tE1 h)
  by_cases hpi : (isC c ce v = true ∧ plainV v = true) ∧ i < sl.length
  · rw [if_pos hpi] at q
    have hp := hpi.1
    have hσ : i < σ.length := by rw [← hs.len]; exact hpi.2
    split at q
    · rename_i out ce2 eg
      split at q
      · rename_i hlen
        obtain ⟨a, dx, fs, n, rfl, hH, hfs⟩ := isC_rd so r hp.1
        refine ⟨a, dx, fs, rfl, hH, take_lookup hfs hno, ?_⟩
        have rr : VReps Z A F [v] [.ref a] := ⟨_, [], rfl, r, by unfold VReps; rfl⟩
        refine ⟨fun ys x J Vw => ∃ A' F' ce' es d, A <+: A' ∧ Same F F' ∧ SO Z.toZx A' F' ce' J ∧ ce'.take ce.length = ce ∧ Reps Z.toZx F' es ys ∧ Rep Z.toZx F' d x ∧ es ++ [d] <+: out ∧ Vw = fun J' => ∃ F2, Same F' F2 ∧ SO Z.toZx A' F2 ce' J',
          fun ys J => ∃ F', Same F F' ∧ SO Z.toZx A F' ce2 J ∧ Reps Z.toZx F' out ys, ⟨A, F, ce, [v], out, ce2, so, rr.nohd (by simp [hp.2]), rfl, eg, fun A' F' ce' J es d ys x pA eF so' hk q1 q2 q3 => ⟨A', F', ce', es, d, pA, eF, so', hk, q1, q2, q3, rfl⟩, fun F' J l eF so' q1 => ⟨F', eF, so', q1⟩⟩,
          fun ys zv => ys.length ≤ out.length ∧ zv = ys, ⟨Nat.zero_le _, rfl⟩, fun kk zv hh => Nat.lt_of_le_of_lt hh.1 (show out.length < sizeLine from hlen), ?_, ?_⟩
        · rintro ys x J Vw zv D ⟨A', F', ce', es, d, pA, eF, so', hk, q1, q2, q3, rfl⟩ ⟨hkl, rfl⟩ hJ
          have ly : es.length = zv.length := q1.length
          have lo : zv.length < out.length := by
            obtain ⟨tl, et⟩ := q3
            have := congrArg List.length et
            simp at this
            omega
          rw [hi]
          have hl2 : i < (wipe σ [i]).length := by rw [wipe_length]; exact hσ
          refine ⟨wipe_agree (ix := [i]) ⟨by simp, fun j hj => ?_⟩ (fun j hj => hj), x, by rw [List.getElem?_set_self hl2], zv, upd_same, by rw [sizeLine_eq]; show zv.length < 16777216; have : out.length < 16777216 := hlen; omega, ⟨F', Same.refl _, ?_⟩, by rw [List.length_append, List.length_singleton]; omega, rfl⟩
          · have : i ≠ j := fun z => hj (by simp [z])
            rw [List.getElem?_set_ne this]
          · rw [delZ_upd, delZ_none hJ]
            exact so'
        · rintro ys J zv D ⟨F', eF, so', q1⟩ ⟨hkl, rfl⟩ hJ
          have hF : F' D = none := so'.fnone hJ
          have hl' : A.length = ce2.length := so'.len
          exact q (A ++ [D]) F' (upd J D (.lst zv)) (.ref D) (List.prefix_append _ _) eF (so'.newCell hJ ⟨hF, zv, upd_same, q1⟩) ⟨D, by rw [← hl']; simp, rfl⟩
      · exact q.elim
    · exact q.elim
  · rw [if_neg hpi] at q
    exact q.elim
end
end ZZ
set_option Elab.async false
set_option linter.all false
set_option maxRecDepth 100000
namespace ZZ
open PySem PySem.Spec L2
def noRws (ce : List Cell) : Bool := ce.all fun c => match c with
  | .rws _ => false
  | _ => true
def only (n : Nat) (ce : List Cell) : Bool := noRws (ce.set n .dead)
def eLstR : DE := fun _ ce => .ok (.cell ce.length) (ce ++ [.rws []])
def tyR (ce : List Cell) : Val → Bool
  | .cell n => match ce[n]? with
    | some (.rws _) => true
    | _ => false
  | _ => false
def kAppR (v : Val) (vs : List Val) : DE := fun _ ce => match v with
  | .cell n => match ce[n]?, ims vs with
    | some (.rws rows), some ds => if rows.length < LINE ∧ ds.length ≤ LINE then .ok (.im .non) (ce.set n (.rws (rows ++ [ds]))) else .stuck
    | _, _ => .stuck
  | _ => .stuck
def eAppR (f : DE) (fs : List DE) : DE := eBind f fun v sl ce => if tyR ce v then eArgs fs (kAppR v) sl ce else .stuck
/-- rows[i][k], k a numeral -/
def kIxR (k : Int) (v u : Val) : DE := fun _ ce => match v, u with
  | .cell n, .im (.int i) => match ce[n]? with
    | some (.rws rows) => match atI rows i with
      | some ds => match atI ds k with
        | some d => .ok (.im d) ce
        | none => .stuck
      | none => .stuck
    | _ => .stuck
  | _, _ => .stuck
def sSetRow (fo fi : DE) (k : Int) (fv : DE) : DSt := sExp fv fun v => sExp fo fun u => sExp fi fun i sl ce => match u, v, i with
  | .cell n, .im d, .im (.int p) => match ce[n]? with
    | some (.rws rows) => match ixN rows.length p with
      | some q => match rows[q]? with
        | some ds => match ixN ds.length k with
          | some j => if only n ce = true then .nx sl (ce.set n (.rws (rows.set q (ds.set j d)))) else .stuck
          | none => .stuck
        | none => .stuck
      | none => .stuck
    | _ => .stuck
  | _, _, _ => .stuck
/-- a ghost step: the rows are frozen -/
def frzR (i : Nat) (f : DSt) : DSt := fun sl ce => match sl[i]? with
  | some (some (.cell k)) => match ce[k]? with
    | some (.rws rows) => if only k ce = true then f (sl.set i (some (.im (.lst (rows.map .lst))))) (ce.set k .dead) else .stuck
    | _ => .stuck
  | _ => .stuck
section
variable {Z : Zx} {A A' : List Addr} {F F' H J : Hp} {ce : List Cell} {sl : Sl}
theorem noRws_at (h : noRws ce = true) {k : Nat} {rows : List (List D)} : ce[k]? ≠ some (.rws rows) := fun e => by
  have := List.all_eq_true.mp h _ (List.mem_of_getElem? e)
  cases this
theorem only_at {n : Nat} (h : only n ce = true) {k : Nat} (hk : k ≠ n) {rows : List (List D)} : ce[k]? ≠ some (.rws rows) := fun e => by
  refine noRws_at h (k := k) (rows := rows) ?_
  rw [List.getElem?_set_ne (Ne.symm hk)]
  exact e
theorem rows_len : ∀ {rows : List (List D)} {bs : List Addr}, RowsOk Z A F H rows bs → rows.length = bs.length
  | [], bs, h => by
    unfold RowsOk at h
    rw [h]
    rfl
  | r :: rs, bs, ⟨b, t, vs, e1, h1, h2, h3, h4, h5, h6⟩ => by rw [e1, List.length_cons, List.length_cons, rows_len h6]
theorem rows_get : ∀ {rows : List (List D)} {bs : List Addr} {i : Nat} {ds : List D}, RowsOk Z A F H rows bs → rows[i]? = some ds → ∃ b vs, bs[i]? = some b ∧ F b = none ∧ b ∉ A ∧ H b = some (.lst vs) ∧ Reps Z F ds vs
  | [], bs, i, ds, h, q => by simp at q
  | r :: rs, bs, i, ds, ⟨b, t, vs, e1, h1, h2, h3, h4, h5, h6⟩, q => by
    cases i with
    | zero =>
      simp only [List.getElem?_cons_zero, Option.some.injEq] at q
      subst q
      exact ⟨b, vs, by rw [e1]; rfl, h1, h2, h4, h5⟩
    | succ i =>
      rw [List.getElem?_cons_succ] at q
      obtain ⟨b', vs', z⟩ := rows_get h6 q
      exact ⟨b', vs', by rw [e1, List.getElem?_cons_succ]; exact z.1, z.2⟩
theorem rows_mem : ∀ {rows : List (List D)} {bs : List Addr} {b : Addr}, RowsOk Z A F H rows bs → b ∈ bs → F b = none ∧ b ∉ A ∧ ∃ o, H b = some o
  | [], bs, b, h, q => by
    unfold RowsOk at h
    subst h
    cases q
  | r :: rs, bs, b', ⟨b, t, vs, e1, h1, h2, h3, h4, h5, h6⟩, q => by
    subst e1
    rcases List.mem_cons.mp q with rfl | q
    · exact ⟨h1, h2, _, h4⟩
    · exact rows_mem h6 q
theorem rows_snoc {q : Addr} {ds : List D} {vs : List V} (hq : F q = none) (hA : q ∉ A) (hH : H q = some (.lst vs)) (r : Reps Z F ds vs) : ∀ {rows : List (List D)} {bs : List Addr}, q ∉ bs → RowsOk Z A F H rows bs → RowsOk Z A F H (rows ++ [ds]) (bs ++ [q])
  | [], bs, hn, h => by
    unfold RowsOk at h
    subst h
    exact ⟨q, [], vs, rfl, hq, hA, by simp, hH, r, rfl⟩
  | r0 :: rs, bs, hn, ⟨b, t, ws, e1, h1, h2, h3, h4, h5, h6⟩ => by
    subst e1
    refine ⟨b, t ++ [q], ws, rfl, h1, h2, fun z => ?_, h4, h5, rows_snoc hq hA hH r (fun z => hn (List.mem_cons_of_mem _ z)) h6⟩
    rcases List.mem_append.mp z with z | z
    · exact h3 z
    · exact hn (by rw [List.mem_singleton.mp z]; exact List.mem_cons_self ..)
theorem rows_set {b : Addr} {ds : List D} {vs : List V} (r : Reps Z F ds vs) : ∀ {rows : List (List D)} {bs : List Addr} {i : Nat}, bs[i]? = some b → RowsOk Z A F H rows bs → RowsOk Z A F (upd H b (.lst vs)) (rows.set i ds) bs
  | [], bs, i, hi, h => by
    unfold RowsOk at h
    subst h
    simp at hi
  | r0 :: rs, bs, i, hi, ⟨a, t, ws, e1, h1, h2, h3, h4, h5, h6⟩ => by
    subst e1
    cases i with
    | zero =>
      simp at hi
      subst hi
      refine ⟨a, t, vs, rfl, h1, h2, h3, upd_same, r, ?_⟩
      have key : ∀ {rows : List (List D)} {t : List Addr}, a ∉ t → RowsOk Z A F H rows t → RowsOk Z A F (upd H a (.lst vs)) rows t := by
        intro rows
        induction rows with
        | nil => exact fun _ h => h
        | cons r1 rs1 ih =>
          rintro t ht ⟨c, u, zs, e1, g1, g2, g3, g4, g5, g6⟩
          subst e1
          have hc : c ≠ a := fun z => ht (by rw [z]; exact List.mem_cons_self ..)
          exact ⟨c, u, zs, rfl, g1, g2, g3, by rw [upd_ne hc]; exact g4, g5, ih (fun z => ht (List.mem_cons_of_mem _ z)) g6⟩
      exact key h3 h6
    | succ i =>
      rw [List.getElem?_cons_succ] at hi
      have hne : a ≠ b := fun z => h3 (by rw [z]; exact List.mem_of_getElem? hi)
      exact ⟨a, t, ws, rfl, h1, h2, h3, by rw [upd_ne hne]; exact h4, h5, rows_set r hi h6⟩
/-- the heap grows by what nobody else knows -/
theorem SO.more (s : SO Z A F ce H) {p : Addr} {o : HO} (hp : H p = none) : SO Z A F ce (upd H p o) := by
  refine ⟨fun b x e => ?_, s.len, s.nd, fun k a c h1 h2 => ?_⟩
  · rw [upd_ne (ne_of_none (s.sub _ _ e) hp)]
    exact s.sub _ _ e
  · obtain ⟨u, hu⟩ := s.tracked h1
    exact (s.ok k a c h1 h2).mono (List.prefix_refl _) (Same.refl _) (upd_ne (ne_of_none hu hp)) id fun b n1 n2 ⟨x, n3⟩ => ⟨upd_ne (ne_of_none n3 hp), n2, n1⟩
theorem SO.rowAdd (s : SO Z A F ce H) {n : Nat} {l q : Addr} {rows : List (List D)} {bs : List Addr} {ds : List D} {vs : List V} (hk : A[n]? = some l) (hF : F l = none) (hl : H l = some (.lst (bs.map V.ref))) (hr : RowsOk Z A F H rows bs) (hq : H q = none) (r : Reps Z F ds vs) :
    SO Z A F (ce.set n (.rws (rows ++ [ds]))) (upd (upd H q (.lst vs)) l (.lst (bs.map V.ref ++ [.ref q]))) := by
  have hql : q ≠ l := fun z => by rw [z, hl] at hq; cases hq
  have hqA : q ∉ A := fun z => by
    obtain ⟨k, hk⟩ := List.getElem?_of_mem z
    obtain ⟨u, hu⟩ := s.tracked hk
    rw [hq] at hu
    cases hu
  have hqb : q ∉ bs := fun z => by
    obtain ⟨_, _, o, ho⟩ := rows_mem hr z
    rw [hq] at ho
    cases ho
  refine (s.more (o := .lst vs) hq).write hk hF ⟨hF, bs ++ [q], by rw [upd_same, List.map_append]; rfl, ?_⟩
  refine rows_snoc (s.fnone hq) hqA (by rw [upd_ne hql, upd_same]) r hqb (hr.mono (Same.refl _) fun b n1 n2 ⟨o, n3⟩ => ⟨?_, n2, n1⟩)
  rw [upd_ne fun z => n1 (by rw [z]; exact List.mem_of_getElem? hk), upd_ne (ne_of_none n3 hq)]
theorem SO.rowSet (s : SO Z A F ce H) {n i : Nat} {l b : Addr} {rows : List (List D)} {bs : List Addr} {ds : List D} {vs : List V} (hk : A[n]? = some l) (hF : F l = none) (hl : H l = some (.lst (bs.map V.ref))) (hr : RowsOk Z A F H rows bs) (hb : bs[i]? = some b) (r : Reps Z F ds vs) (ho : only n ce = true) :
    SO Z A F (ce.set n (.rws (rows.set i ds))) (upd H b (.lst vs)) := by
  obtain ⟨fb, bA, o, hbo⟩ := rows_mem hr (List.mem_of_getElem? hb)
  refine ⟨fun c x e => ?_, by simp [s.len], s.nd, fun j a c h1 h2 => ?_⟩
  · rw [upd_ne (ne_of_none e fb)]
    exact s.sub _ _ e
  · have hab : a ≠ b := fun z => bA (by rw [← z]; exact List.mem_of_getElem? h1)
    by_cases hj : n = j
    · subst hj
      rw [hk] at h1
      cases h1
      have hl' : n < ce.length := by rw [← s.len]; exact (List.getElem?_eq_some_iff.mp hk).1
      rw [List.getElem?_set_self hl'] at h2
      cases h2
      exact ⟨hF, bs, by rw [upd_ne hab]; exact hl, rows_set r hb hr⟩
    · rw [List.getElem?_set_ne hj] at h2
      have q := s.ok j a c h1 h2
      have e := upd_ne (H := H) (o := .lst vs) hab
      cases c with
      | rws rs => exact absurd h2 (only_at ho (Ne.symm hj))
      | dead => obtain ⟨o, q⟩ := q; exact ⟨o, e.trans q⟩
      | lst ds => obtain ⟨q0, vs, q1, q2⟩ := q; exact ⟨q0, vs, e.trans q1, q2⟩
      | ins x ds => obtain ⟨q0, dx, fs, q1, q2⟩ := q; exact ⟨q0, dx, fs, e.trans q1, q2⟩
      | ptr ks => obtain ⟨q0, k0, bs, q1, q2, q3⟩ := q; exact ⟨q0, k0, bs, q1, e.trans q2, q3⟩
      | dct ks vs => obtain ⟨q0, o, kvs, vvs, q1, q2⟩ := q; exact ⟨q0, o, kvs, vvs, e.trans q1, q2⟩
theorem SO.kill (s : SO Z A F ce H) (n : Nat) : SO Z A F (ce.set n .dead) H := by
  refine ⟨s.sub, by simp [s.len], s.nd, fun j a c h1 h2 => ?_⟩
  by_cases hj : n = j
  · subst hj
    have hl : n < ce.length := by
      rw [← s.len]
      exact (List.getElem?_eq_some_iff.mp h1).1
    rw [List.getElem?_set_self hl] at h2
    cases h2
    exact s.tracked h1
  · rw [List.getElem?_set_ne hj] at h2
    exact s.ok j a c h1 h2
theorem SO.keepF (s : SO Z A F ce H) (hn : noRws ce = true) {b : Addr} {o : HO} (hA : b ∉ A) (hF : F b = none) (hH : H b = some o) : SO Z A (upd F b o) ce H := by
  have up := same_up (o := o) hF
  refine ⟨fun c x e => ?_, s.len, s.nd, fun j a c h1 h2 => ?_⟩
  · by_cases hc : c = b
    · subst hc
      rw [upd_same] at e
      cases e
      exact hH
    · rw [upd_ne hc] at e
      exact s.sub _ _ e
  · have hab : a ≠ b := fun z => hA (z ▸ List.mem_of_getElem? h1)
    have e : ∀ {z : Prop}, F a = none → upd F b o a = none := fun {z} y => by rw [upd_ne hab]; exact y
    have q := s.ok j a c h1 h2
    cases c with
    | rws rs => exact absurd h2 (noRws_at hn)
    | dead => exact q
    | lst ds => obtain ⟨q0, vs, q1, q2⟩ := q; exact ⟨e (z := True) q0, vs, q1, q2.mono up⟩
    | ins x ds => obtain ⟨q0, dx, fs, q1, q2, q3⟩ := q; exact ⟨e (z := True) q0, dx, fs, q1, q2, q3.mono up⟩
    | ptr ks => obtain ⟨q0, k0, bs, q1, q2, q3⟩ := q; exact ⟨e (z := True) q0, k0, bs, q1, q2, q3⟩
    | dct ks vs => obtain ⟨q0, o', kvs, vvs, q1, q2, q3, q4⟩ := q; exact ⟨e (z := True) q0, o', kvs, vvs, q1, q2, q3.mono up, q4.mono up⟩
theorem SO.keepRows (hn : noRws ce = true) : ∀ {rows : List (List D)} {bs : List Addr} {F : Hp}, SO Z A F ce H → RowsOk Z A F H rows bs → ∃ F', Same F F' ∧ SO Z A F' ce H ∧ Reps Z F' (rows.map .lst) (bs.map V.ref) ∧ ∀ a, F a = none → a ∉ bs → F' a = none
  | [], bs, F, s, h => by
    unfold RowsOk at h
    subst h
    exact ⟨F, Same.refl _, s, reps_nil, fun a ha _ => ha⟩
  | r :: rs, bs, F, s, ⟨b, t, vs, e1, h1, h2, h3, h4, h5, h6⟩ => by
    subst e1
    have up := same_up (o := .lst vs) h1
    have s2 := s.keepF hn h2 h1 h4
    have h7 : RowsOk Z A (upd F b (.lst vs)) H rs t := by
      have key : ∀ {rows : List (List D)} {t : List Addr}, b ∉ t → RowsOk Z A F H rows t → RowsOk Z A (upd F b (.lst vs)) H rows t := by
        intro rows
        induction rows with
        | nil => exact fun _ h => h
        | cons r1 rs1 ih =>
          rintro t ht ⟨c, u, zs, e1, g1, g2, g3, g4, g5, g6⟩
          subst e1
          have hc : c ≠ b := fun z => ht (by rw [z]; exact List.mem_cons_self ..)
          exact ⟨c, u, zs, rfl, by rw [upd_ne hc]; exact g1, g2, g3, g4, g5.mono up, ih (fun z => ht (List.mem_cons_of_mem _ z)) g6⟩
      exact key h3 h6
    obtain ⟨F', p1, p2, p3, p4⟩ := SO.keepRows hn s2 h7
    refine ⟨F', up.trans p1, p2, reps_cons ?_ p3, fun a ha hna => p4 a ?_ fun z => hna (List.mem_cons_of_mem _ z)⟩
    · unfold Rep
      exact ⟨b, vs, rfl, p1 _ _ upd_same, (h5.mono up).mono p1⟩
    · rw [upd_ne fun z => hna (by rw [z]; exact List.mem_cons_self ..)]
      exact ha
end
section
variable {X : Cx} {Z : Zy} {W : WX} {a b o i value : Expr} {es : List Expr} {f g fo fi fv : DE} {fs : List DE} {pos pos' p2 p3 apos cpos lp : Pos} {st : Stmt} {h : DSt}
theorem de_lstR : PE X (.List [] pos) (tE Z W eLstR) := (pe_lst pa_nil).weak fun σ H Q ⟨A, F, sl, ce, so, hs, p⟩ => ⟨Nat.zero_le _, fun q hq => by
  refine p (A ++ [q]) F _ (.ref q) (List.prefix_append _ _) (Same.refl _) (so.newCell hq ⟨so.fnone hq, [], upd_same, rfl⟩) ⟨q, by rw [← so.len]; simp, rfl⟩⟩
theorem tyR_rd {ce : List Cell} {v : Val} (t : tyR ce v = true) : ∃ n rows, v = .cell n ∧ ce[n]? = some (.rws rows) := by
  cases v with
  | im d => cases t
  | exn c ds => cases t
  | cell n =>
    unfold tyR at t
    dsimp only at t
    cases h : ce[n]? with
    | none => rw [h] at t; cases t
    | some c =>
      rw [h] at t
      cases c with
      | rws rows => exact ⟨n, rows, rfl, h⟩
      | _ => cases t
theorem tyR_ok (hK : X.K = Z.K) {A F ce v x H} (so : SO Z.toZx A F ce H) (r : VRep Z A F v x) (t : tyR ce v = true) : tyV X.K "list" x H := by
  obtain ⟨n, rows, rfl, hk⟩ := tyR_rd t
  obtain ⟨l, hA, rfl⟩ := r
  obtain ⟨hF, bs, hl, hr⟩ := so.ok n l _ hA hk
  exact .inl ⟨rfl, _, SqL.of hl⟩
theorem de_appR (hK : X.K = Z.K) (ho : PE X o (tE Z W f)) (ha : PA X es (tArgs Z W fs))
    (hb : attributeBase o "append" X.env (eval o X.env) = eval o X.env := by rfl) (hl : (apos.endLine == cpos.line) = true := by rfl) (hs : starEach [.List es lp] X.env = (false, eval (.List es lp) X.env) :: starEach [] X.env := by rfl) (hfew : ((backTo cpos (starEach [.List es lp] X.env)).all (fun x => !x.1) && (backToKw cpos (keywordEach [] X.env)).all (fun x => x.1.isSome)
      && decide ([Expr.List es lp].length + ([] : List Keyword).length + (if ([] : List Keyword).isEmpty then 0 else 1) < 30)) = true := by rfl) :
    PE X (.Call (.Attribute o "append" apos) [.List es lp] [] cpos) (tE Z W (eAppR f fs)) := by
  refine (pe_bm PySem.F.plainAttrs_list PySem.F.slot_list_append PySem.F.type_list_append mt_append ho (pa_cons (pe_lst ha) pa_nil hs) hb hfew hl hs rfl).weak fun σ H Q q => tE_imp (fun x H1 ⟨A, F, sl, ce, v, so, hs, r, p⟩ => ?_) (tE1 q)
  by_cases ht : tyR ce v = true
  · rw [if_pos ht] at p
    refine ⟨tyR_ok hK so r ht, ?_⟩
    show tArgs Z W fs σ H1 _
    refine tArgs_imp (fun xs H2 ⟨A2, F2, ce2, vs, p2, e2, s2, r2, l2, q2⟩ => ?_) (tArgs_ok so hs p)
    obtain ⟨n, _, rfl, _⟩ := tyR_rd ht
    unfold kAppR at q2
    dsimp only at q2
    split at q2
    · rename_i rows ds hk hi
      split at q2
      · rename_i hc
        obtain ⟨l, hA, rfl⟩ := r.mono p2 e2
        obtain ⟨hF, bs, hl, hr⟩ := s2.ok n l _ hA hk
        have rr := ims_rd r2 hi
        refine ⟨by rw [sizeLine_eq, ← rr.length]; exact hc.2, fun z hz => ?_⟩
        have hzl : l ≠ z := fun y => by rw [← y, hl] at hz; cases hz
        refine ⟨l, bs.map V.ref, .ref z, rfl, rfl, by rw [upd_ne hzl]; exact hl, by rw [sizeLine_eq, List.length_map, ← rows_len hr]; exact hc.1, ?_⟩
        exact q2 A2 F2 _ _ (List.prefix_refl _) (Same.refl _) (s2.rowAdd hA hF hl hr hz rr) (by unfold VRep Rep; rfl)
      · exact q2.elim
    · exact q2.elim
  · rw [if_neg ht] at p
    exact p.elim
theorem atI_get {α : Type} {xs : List α} {i : Int} {x : α} (h : atI xs i = some x) : ∃ j, ixN xs.length i = some j ∧ xs[j]? = some x := by
  unfold atI at h
  exact Option.bind_eq_some_iff.mp h
theorem de_ixR {k : Int} {jj : _} (hK : X.K = Z.K) (ha : PE X a (tE Z W f)) (hb : PE X b (tE Z W g)) (hs : PlainIx b := by exact fun _ _ => rfl) (hs2 : PlainIx (.Constant (.int k) jj p3) := by exact fun _ _ => rfl) :
    PE X (.Subscript (.Subscript a b pos') (.Constant (.int k) jj p3) pos) (tE Z W (eBin (kIxR k) f g)) :=
  (pe_ix (r := rIx Z.K) (by rw [← hK]; exact ix_seq) (pe_ix (r := rIx Z.K) (by rw [← hK]; exact ix_seq) ha hb hs) pe_int hs2).weak fun σ H Q h => tE_imp (fun x H1 h1 => tE_imp (fun y H2 ⟨A, F, sl, ce, v, u, so, hs, rv, ru, p⟩ => by
    unfold kIxR at p
    split at p
    · rename_i n i
      split at p
      · rename_i rows hk
        split at p
        · rename_i ds hd
          split at p
          · rename_i d hj
            obtain ⟨l, hA, rfl⟩ := rv
            obtain ⟨hF, bs, hl, hr⟩ := so.ok n l _ hA hk
            obtain ⟨q, hq, hq2⟩ := atI_get hd
            obtain ⟨c, ws, hc, fc, cA, hH, rr⟩ := rows_get hr hq2
            obtain ⟨j, hj1, hj2⟩ := atI_get hj
            obtain ⟨w, hw, rw'⟩ := rr.get' hj2
            rw [rep_int ru]
            refine .inl ⟨l, bs.map V.ref, i, .ref c, rfl, rfl, SqL.of hl, ?_, .inl ⟨c, ws, k, w, rfl, rfl, SqL.of hH, ?_, fin_flat so p rw'⟩⟩
            · unfold atI
              rw [List.length_map, ← rows_len hr, hq]
              simp [hc]
            · unfold atI
              rw [← rr.length, hj1]
              simp [hw]
          · exact p.elim
        · exact p.elim
      · exact p.elim
    · exact p.elim) h1) (tE2 h)
theorem ds_setRow {k : Int} {jj : _} (hK : X.K = Z.K) (ho : PE X o (tE Z W fo)) (hi : PE X i (tE Z W fi)) (hv : PE X value (tE Z W fv)) (hp : PlainIx i := by exact fun _ _ => rfl)
    (hs : swapsWith value (some (.Subscript (.Subscript o i p2) (.Constant (.int k) jj p3) pos')) pos.line X.env = pure false := by rfl) : PS X (.Assign [.Subscript (.Subscript o i p2) (.Constant (.int k) jj p3) pos'] value pos) (tS Z W (sSetRow fo fi k fv)) :=
  (ps_setIx (pe_ix (r := rIx Z.K) (by rw [← hK]; exact ix_seq) ho hi hp) pe_int hv hs).weak fun D σ H h => tE_imp (fun v H1 ⟨A, F, sl, ce, vv, so, hs, rv, p⟩ => by
    refine ⟨A, F, sl, ce, so, hs, (PostS.exp so hs p).imp fun x H2 ⟨A1, F1, ce1, vx, p1, e1, so1, rx, q1⟩ => ?_⟩
    have rv1 := rv.mono p1 e1
    have hs1 := hs.mono p1 e1
    refine ⟨A1, F1, sl, ce1, so1, hs1, (PostS.exp so1 hs1 q1).imp fun y H3 ⟨A2, F2, ce2, vy, p2, e2, so2, ry, q2⟩ => ?_⟩
    have rv2 := rv1.mono p2 e2
    have rx2 := rx.mono p2 e2
    have hs2 := hs1.mono p2 e2
    split at q2
    · rename_i n d kk _ _
      split at q2
      · rename_i rows hk
        split at q2
        · rename_i q hq
          split at q2
          · rename_i ds hd
            split at q2
            · rename_i j hj
              split at q2
              · rename_i hon
                obtain ⟨l, hA, rfl⟩ := rx2
                obtain ⟨hF, bs, hl, hr⟩ := so2.ok n l _ hA hk
                obtain ⟨c, ws, hc, fc, cA, hH, rr⟩ := rows_get hr hd
                rw [rep_int ry]
                refine .inl ⟨l, bs.map V.ref, kk, .ref c, rfl, rfl, SqL.of hl, ?_, ⟨c, ws, k, j, rfl, rfl, hH, by rw [← rr.length]; exact hj, ?_⟩⟩
                · unfold atI
                  rw [List.length_map, ← rows_len hr, hq]
                  simp [hc]
                · exact nxS (so2.rowSet hA hF hl hr hc (rr.set j rv2) hon) hs2 q2
              · exact q2.elim
            · exact q2.elim
          · exact q2.elim
        · exact q2.elim
      · exact q2.elim
    · exact q2.elim) (tS1 h)
theorem tS_frzR {i : Nat} {D σ H} (q : tS Z W (frzR i h) D σ H) : tS Z W h D σ H := by
  obtain ⟨A, F, sl, ce, so, hs, p⟩ := q
  unfold frzR at p
  split at p
  · rename_i k e1
    split at p
    · rename_i rows e2
      split at p
      · rename_i hon
        obtain ⟨x, h1, a, hA, rfl⟩ := hs.is i _ e1
        obtain ⟨hF, bs, h3, h4⟩ := so.ok k a _ hA e2
        have so2 := so.kill k
        obtain ⟨F', s1, s2, s3, s4⟩ := SO.keepRows (ce := ce.set k .dead) hon so2 h4
        have hF' : F' a = none := s4 a hF fun z => (rows_mem h4 z).2.1 (List.mem_of_getElem? hA)
        have hk : k < ce.length := by rw [← so.len]; exact (List.getElem?_eq_some_iff.mp hA).1
        have up := same_up (o := .lst (bs.map V.ref)) hF'
        have up2 := s1.trans up
        have s5 := s2.freeze hA hF' h3
        rw [List.set_set] at s5
        have hs2 : SL Z A (upd F' a (.lst (bs.map V.ref))) (sl.set i (some (.im (.lst (rows.map .lst))))) σ := by
          have q := (hs.mono (List.prefix_refl _) up2).set (i := i) (v := .im (.lst (rows.map .lst))) (x := .ref a) (by unfold VRep Rep; exact ⟨a, _, rfl, upd_same, s3.mono up⟩)
          have e4 : σ.set i (some (.ref a)) = σ := List.ext_getElem? fun j => by
            by_cases hj : i = j
            · subst hj
              rw [List.getElem?_set_self (List.getElem?_eq_some_iff.mp h1).1, h1]
            · rw [List.getElem?_set_ne hj]
          rw [e4] at q
          exact q
        exact ⟨A, _, _, _, s5, hs2, p.mono (List.prefix_refl _) up2⟩
      · exact p.elim
    · exact p.elim
  · exact p.elim
theorem ds_frzR {i : Nat} (q : PS X st (tS Z W h)) : PS X st (tS Z W (frzR i h)) := q.weak fun D σ H q => tS_frzR q
end
end ZZ
set_option Elab.async false
set_option linter.all false
set_option maxRecDepth 100000
set_option maxHeartbeats 1000000
namespace ZZ
open PySem PySem.Spec L2 PyProof.Rows GenW
section
variable {X : Cx}
theorem ps_setLcY {i : Nat} {y : Str} {py : Pos} {elt tg iter : Expr} {scope : Scope} {own : List (Str × Nat)} {pos spos : Pos} {wg : TGz} {tgt : TG} {te : TE} {k : Nat} (hr : Room (k + 1) X.A) (hN : X.N.Nodup) (hy : X.N[i]? = some y) (hyl : X.env.scope.names.lookup y = some .local)
    (hsw : swapsWith (.ListComp elt [⟨tg, iter, [], 0⟩] scope pos) (some (.Name y py)) spos.line X.env = pure true) (hi : PGenZ X k iter wg) (ok : BlkOk X.N X.env.scope scope own)
    (hcl : ∀ n, cellsFrom n scope.names (cloFrom X.env.cells scope.names []) = []) (hpc : ∀ h, pushCells h scope.names = h)
    (hg : ∀ (s : Shared) (H : Hp) (C : Addr) (cl : List (Str × Addr)) (fp : List Addr), PG (X.blk s H scope (compEnvC scope cl C X.env) fp) tg tgt)
    (he : ∀ (s : Shared) (H : Hp) (C : Addr) (cl : List (Str × Addr)) (fp : List Addr), PE (X.blk s H scope (compEnvC scope cl C X.env) fp) elt te) (hs : ∀ x, foldedSetIterable iter X.env x = pure x) :
    PS X (.Assign [.Name y py] (.ListComp elt [⟨tg, iter, [], 0⟩] scope pos) spos) (tAsg (tLcY wg tgt te (own.map (·.2))) (gName i)) := by
  refine ⟨fun pins s σ H D I h => ?_⟩
  rw [exec_Assign_Name_used _ _ _ _ hsw]
  refine wpAny_bind (wpAny_standAt (wpAny_bind ?_))
  show wpAny _ X.A (do let _ ← comprehension (.ListComp elt [⟨tg, iter, [], 0⟩] scope pos) scope X.env (firstIterPos [⟨tg, iter, [], 0⟩] pos) (newList []) false (eval iter X.env) (some (assign (.Name y py) X.env))) _ _ s
  have h : tLcY wg tgt te (own.map (·.2)) σ H (fun x H1 => gName i x σ H1 D.nx) := h
  refine wpAny_bind (thn (lcY_core (Qf := fun _ s' => SP X pins D .next s') hr hN I hi ok hcl hpc hg he hs h fun L C s' m H' I' q hn f => ?_) fun _ s' hq => wpAny_pure (wpAny_pure hq))
  show wpAny _ _ (assign (.Name y py) X.env (.ref L)) _ _ _
  refine wpAny_assign_Name (store_ok2 (v := V.ref L) I' hN hy (.inl hyl) rfl (fun s2 I2 ⟨a, sb, ha⟩ => ?_) (.inr hyl))
  obtain ⟨f0, f1, f2, f3, f4, f5⟩ := f
  have haC : C ≠ a := by
    rcases ha with z | z
    · rw [z]; exact f1
    · exact fun e => f4 y a z e.symm
  refine ⟨m, hn.sameBut sb haC, fun h3 sb3 => ?_⟩
  exact ⟨_, H', I2.turned (t' := s2.toks) (fun b o hb e => (sb3.2 b hb).trans e) f0 f1 f3 f4 f5, q⟩
end
section
variable {X : Cx} {Z : Zy} {W : WX} {k c nsl : Nat} {fa : Addr} {m : Str} {o elt tg : Expr} {f : DE} {scope : Scope} {own : List (Str × Nat)} {i j : Nat} {body : List Cell → DGn} {pos apos cp spos py : Pos} {y : Str}
theorem ds_setLcIM {pl : Sem Bool} (he : PE X o (tE Z W f)) (hc : ClsOk X.K Z.toZx c) (hmt : Meth X.K (Z.cl c) m fa) (hno : m ∉ Z.fl c) (G : GFnY X.prog X.w X.K X.mg X.base k fa (spZd Z.toZx body nsl 1)) (hr : Room (k + 1) X.A) (hN : X.N.Nodup) (ok : BlkOk X.N X.env.scope scope own) (hi : own.map (·.2) = [i])
    (hg : ∀ (s : Shared) (H : Hp) (C : Addr) (cl : List (Str × Addr)) (fp : List Addr), PG (X.blk s H scope (compEnvC scope cl C X.env) fp) tg (gName i))
    (hx : ∀ (s : Shared) (H : Hp) (C : Addr) (cl : List (Str × Addr)) (fp : List Addr), PE (X.blk s H scope (compEnvC scope cl C X.env) fp) elt (tVar i))
    (hcl : ∀ n, cellsFrom n scope.names (cloFrom X.env.cells scope.names []) = [] := by intro _; rfl) (hpc : ∀ h, pushCells h scope.names = h := by intro _; rfl)
    (ht : eval (.Call (.Attribute o m apos) [] [] cp) X.env = (do
      let ov ← eval o X.env
      standAt apos.atName
      let (f, first) ← holding [ov] (getMethod ov m pl)
      callWith cp f first (backTo cp (starEach [] X.env)) (backToKw cp (keywordEach [] X.env))) := by rfl)
    (hs : ∀ z, foldedSetIterable (.Call (.Attribute o m apos) [] [] cp) X.env z = pure z := by intro _; rfl)
    (hy : X.N[j]? = some y := by rfl) (hyl : X.env.scope.names.lookup y = some .local := by rfl)
    (hsw : swapsWith (.ListComp elt [⟨tg, .Call (.Attribute o m apos) [] [] cp, [], 0⟩] scope pos) (some (.Name y py)) spos.line X.env = pure true := by exact sw_true rfl rfl rfl (by decide +kernel)) :
    PS X (.Assign [.Name y py] (.ListComp elt [⟨tg, .Call (.Attribute o m apos) [] [] cp, [], 0⟩] scope pos) spos) (tS Z W (sSet j (eSettle (eLcIM c nsl i body f)))) :=
  (ps_setLcY hr hN hy hyl hsw (pgen_methY (pl := pl) he hc.cls hmt G (hr.mono (by omega)) ht) ok hcl hpc hg hx hs).weak fun D σ H h => lcIM_of hi hno (tE_settle (tE_imp (fun x H1 ⟨A, F, sl, ce, v, so, hs, r, p⟩ => nxS so (hs.set r) p) (tS1 h)))
end
end ZZ
set_option Elab.async false
set_option linter.all false
set_option maxRecDepth 100000
namespace ZZ
open PySem PySem.Spec L2
def st (l : List Nat) : Str := ⟨l.toArray⟩
theorem st_len (l : List Nat) : (st l).length = l.length := by simp [st, Str.length]
theorem st_app (a b : List Nat) : st a ++ st b = st (a ++ b) := by
  show Str.append (st a) (st b) = _
  simp [st, Str.append]
theorem st_inj {a b : List Nat} (h : st a = st b) : a = b := by
  have := congrArg (fun s : Str => s.cps.toList) h
  simpa [st] using this
theorem st_signs (l : List Nat) : ZZ.signs (st l) = l.map fun c => .str (st [c]) := by simp [ZZ.signs, st]
theorem foldl_app (c : Nat) : ∀ (n : Nat) (a : Array Nat), (List.replicate n #[c]).foldl (· ++ ·) a = a ++ (List.replicate n c).toArray
  | 0, a => by simp
  | n + 1, a => by
    rw [List.replicate_succ, List.foldl_cons, foldl_app c n, List.replicate_succ]
    apply Array.ext'
    simp
theorem st_mul (c : Nat) (n : Int) : Txt.mul (st [c]) n = st (List.replicate n.toNat c) := by
  unfold Txt.mul
  split
  · have : n.toNat = 0 := by omega
    rw [this]
    rfl
  · split
    · rename_i h1 h2
      simp [st_len] at h2
      rw [h2]
      rfl
    · have e : (st [c]).cps = #[c] := rfl
      rw [e, foldl_app]
      simp [st]
theorem join_flat : ∀ ls : List (List Nat), Str.join (st []) (ls.map st) = st ls.flatten
  | [] => rfl
  | [a] => by simp [Str.join]
  | a :: b :: ls => by
    show st a ++ st [] ++ Str.join (st []) ((b :: ls).map st) = _
    rw [join_flat (b :: ls), st_app, st_app]
    simp
theorem st_join (ls : List (List Nat)) : Txt.join (st []) (ls.map st) = st ls.flatten := by
  rw [TL.join_eq, join_flat]
theorem eq_int {i j : Int} {neg : Bool} {sl : Sl} {ce : List Cell} : kEqG neg (.im (.int i)) (.im (.int j)) sl ce = .ok (.im (.bl (if neg then !decide (i = j) else decide (i = j)))) ce := by
  unfold kEqG
  simp only [asIm, pyEq, toPy]
  rw [if_pos ⟨rfl, rfl⟩]
  simp only [PyData.eqv]
  have : (i == j) = decide (i = j) := by rw [Bool.eq_iff_iff]; simp
  rw [this]
theorem shaped_str {s : Str} (h : PyData.strOk s = true) : SeqAt.shaped (.str s) = true := by
  unfold SeqAt.shaped
  rw [Bool.and_eq_true]
  exact ⟨h, rfl⟩
theorem eq_str {a b : Str} {neg : Bool} {sl : Sl} {ce : List Cell} (ha : PyData.strOk a = true) (hb : PyData.strOk b = true) : kEqG neg (.im (.str a)) (.im (.str b)) sl ce = .ok (.im (.bl (if neg then !decide (a = b) else decide (a = b)))) ce := by
  unfold kEqG
  simp only [asIm, pyEq, toPy]
  rw [if_pos ⟨shaped_str ha, shaped_str hb⟩]
  simp only [PyData.eqv]
  have : (a == b) = decide (a = b) := by rw [Bool.eq_iff_iff]; simp
  rw [this]
theorem ce_get (ce l : List Cell) (k : Nat) : (ce ++ l)[ce.length + k]? = l[k]? := by
  rw [List.getElem?_append_right (by omega)]
  congr 1
  omega
theorem ce_get0 (ce l : List Cell) : (ce ++ l)[ce.length]? = l[0]? := ce_get ce l 0
theorem ce_set (ce l : List Cell) (k : Nat) (c : Cell) : (ce ++ l).set (ce.length + k) c = ce ++ l.set k c := by
  rw [List.set_append_right _ _ (by omega)]
  congr 2
  omega
theorem ce_set0 (ce l : List Cell) (c : Cell) : (ce ++ l).set ce.length c = ce ++ l.set 0 c := ce_set ce l 0 c
theorem ce_take (ce l : List Cell) : (ce ++ l).take ce.length = ce := by simp
end ZZ
set_option Elab.async false
set_option linter.all false
set_option maxRecDepth 100000
namespace ZZ
open PySem PySem.Spec L2
inductive Sg where
  | l | e | g
  deriving DecidableEq
def Sg.code : Sg → Nat
  | .l => 60 | .e => 61 | .g => 62
def txt (s : List Sg) : Str := st (s.map Sg.code)
theorem code_inj {a b : Sg} (h : a.code = b.code) : a = b := by cases a <;> cases b <;> first | rfl | cases h
theorem map_code_inj : ∀ {a b : List Sg}, a.map Sg.code = b.map Sg.code → a = b
  | [], [], _ => rfl
  | [], _ :: _, h => by simp at h
  | _ :: _, [], h => by simp at h
  | x :: a, y :: b, h => by
    simp only [List.map_cons, List.cons.injEq] at h
    rw [code_inj h.1, map_code_inj h.2]
theorem txt_inj {a b : List Sg} (h : txt a = txt b) : a = b := map_code_inj (st_inj h)
theorem txt_eq {a b : List Sg} : (txt a = txt b) ↔ a = b := ⟨txt_inj, fun h => by rw [h]⟩
theorem txt_ok (s : List Sg) : PyData.strOk (txt s) = true := by
  unfold PyData.strOk txt st
  rw [← Array.all_toList]
  simp only [List.all_map, List.all_eq_true]
  intro x _
  cases x <;> decide
theorem txt_len (s : List Sg) : (txt s).length = s.length := by rw [txt, st_len, List.length_map]
theorem txt_app (a b : List Sg) : txt a ++ txt b = txt (a ++ b) := by rw [txt, txt, st_app, txt, List.map_append]
theorem txt_nil : txt [] = ("" : Str) := by decide +kernel
theorem txt_l : txt [.l] = ("<" : Str) := by decide +kernel
theorem txt_e : txt [.e] = ("=" : Str) := by decide +kernel
theorem txt_g : txt [.g] = (">" : Str) := by decide +kernel
theorem txt_signs (s : List Sg) : ZZ.signs (txt s) = s.map fun c => .str (txt [c]) := by rw [txt, st_signs, List.map_map]; rfl
theorem txt_mul (c : Sg) (n : Int) : Txt.mul (txt [c]) n = txt (List.replicate n.toNat c) := by
  rw [txt, List.map_cons, List.map_nil, st_mul, txt, List.map_replicate]
theorem txt_join (ls : List (List Sg)) : Txt.join (txt []) (ls.map txt) = txt ls.flatten := by
  have e : ls.map txt = (ls.map fun s => s.map Sg.code).map st := by rw [List.map_map]; rfl
  rw [e, txt, List.map_nil, st_join, txt]
  congr 1
  induction ls with
  | nil => rfl
  | cons a ls ih => simp [ih]
def lefts (s : List Sg) : Nat := s.length - s.count .g
def rights (s : List Sg) : Nat := s.length - s.count .l
theorem cnt_le (s : List Sg) (c : Sg) : s.count c ≤ s.length := List.count_le_length
theorem lefts_cons (c : Sg) (s : List Sg) : lefts (c :: s) = lefts s + (if c = .g then 0 else 1) := by
  have := cnt_le s .g
  unfold lefts
  rw [List.count_cons, List.length_cons]
  cases c <;> simp <;> omega
theorem rights_cons (c : Sg) (s : List Sg) : rights (c :: s) = rights s + (if c = .l then 0 else 1) := by
  have := cnt_le s .l
  unfold rights
  rw [List.count_cons, List.length_cons]
  cases c <;> simp <;> omega
theorem lefts_app (a b : List Sg) : lefts (a ++ b) = lefts a + lefts b := by
  have h1 := cnt_le a .g
  have h2 := cnt_le b .g
  unfold lefts
  rw [List.count_append, List.length_append]
  omega
theorem rights_app (a b : List Sg) : rights (a ++ b) = rights a + rights b := by
  have h1 := cnt_le a .l
  have h2 := cnt_le b .l
  unfold rights
  rw [List.count_append, List.length_append]
  omega
theorem len_le (s : List Sg) : s.length ≤ lefts s + rights s := by
  induction s with
  | nil => simp
  | cons c s ih =>
    rw [lefts_cons, rights_cons, List.length_cons]
    cases c <;> simp <;> omega
def hts : Nat → List Sg → List (Nat × Nat)
  | _, [] => []
  | r, .l :: s => (r, r) :: hts r s
  | r, .e :: s => (r, r + 1) :: hts (r + 1) s
  | r, .g :: s => hts (r + 1) s
def fh : Nat → List (Nat × Nat) → Nat → List Sg
  | r, [], R => List.replicate (R - r) .g
  | r, (a, b) :: ps, R => List.replicate (a - r) .g ++ (if a = b then Sg.l else Sg.e) :: fh b ps R
def Okh : Nat → List (Nat × Nat) → Nat → Prop
  | r, [], R => r ≤ R
  | r, (a, b) :: ps, R => r ≤ a ∧ a ≤ b ∧ b ≤ a + 1 ∧ Okh b ps R
theorem hts_len : ∀ (r : Nat) (s : List Sg), (hts r s).length = lefts s
  | _, [] => rfl
  | r, .l :: s => by rw [hts, List.length_cons, hts_len, lefts_cons]; rfl
  | r, .e :: s => by rw [hts, List.length_cons, hts_len, lefts_cons]; rfl
  | r, .g :: s => by rw [hts, hts_len, lefts_cons]; rfl
theorem okh_mono : ∀ {r r' : Nat} {ps : List (Nat × Nat)} {R : Nat}, r' ≤ r → Okh r ps R → Okh r' ps R
  | r, r', [], R, h, k => Nat.le_trans h k
  | r, r', (a, b) :: ps, R, h, k => ⟨Nat.le_trans h k.1, k.2⟩
theorem hts_ok : ∀ (r : Nat) (s : List Sg), Okh r (hts r s) (r + rights s)
  | r, [] => Nat.le_add_right _ _
  | r, .l :: s => ⟨Nat.le_refl _, Nat.le_refl _, Nat.le_succ _, by rw [rights_cons]; exact hts_ok r s⟩
  | r, .e :: s => ⟨Nat.le_refl _, Nat.le_succ _, Nat.le_refl _, by
      have := hts_ok (r + 1) s
      have e : r + rights (.e :: s) = r + 1 + rights s := by rw [rights_cons]; simp; omega
      rw [e]
      exact this⟩
  | r, .g :: s => by
    rw [rights_cons]
    have := hts_ok (r + 1) s
    rw [show r + 1 + rights s = r + (rights s + 1) by omega] at this
    exact okh_mono (Nat.le_succ _) this
theorem fh_g {r : Nat} {ps : List (Nat × Nat)} {R : Nat} (h : Okh (r + 1) ps R) : fh r ps R = .g :: fh (r + 1) ps R := by
  cases ps with
  | nil =>
    have : r + 1 ≤ R := h
    rw [fh, fh, show R - r = (R - (r + 1)) + 1 by omega, List.replicate_succ]
  | cons p ps =>
    obtain ⟨a, b⟩ := p
    have : r + 1 ≤ a := h.1
    rw [fh, fh, show a - r = (a - (r + 1)) + 1 by omega, List.replicate_succ]
    rfl
theorem fh_hts : ∀ (r : Nat) (s : List Sg), fh r (hts r s) (r + rights s) = s
  | r, [] => by simp [hts, fh, rights]
  | r, .l :: s => by
    rw [hts, fh, rights_cons]
    simp [fh_hts r s]
  | r, .e :: s => by
    rw [hts, fh, rights_cons]
    have := fh_hts (r + 1) s
    rw [show r + 1 + rights s = r + (rights s + 1) by omega] at this
    simp [this]
  | r, .g :: s => by
    have h := hts_ok (r + 1) s
    have := fh_hts (r + 1) s
    rw [hts, rights_cons]
    rw [show r + 1 + rights s = r + (rights s + 1) by omega] at h this
    show fh r (hts (r + 1) s) (r + (rights s + 1)) = _
    rw [fh_g h, this]
theorem hts_rep : ∀ (n r : Nat) (s : List Sg), hts r (List.replicate n .g ++ s) = hts (r + n) s
  | 0, r, s => by simp
  | n + 1, r, s => by
    rw [List.replicate_succ, List.cons_append, hts, hts_rep n (r + 1) s]
    congr 1
    omega
theorem hts_fh : ∀ {r : Nat} {ps : List (Nat × Nat)} {R : Nat}, Okh r ps R → hts r (fh r ps R) = ps
  | r, [], R, h => by
    have := hts_rep (R - r) r []
    rw [List.append_nil] at this
    rw [fh, this]
    rfl
  | r, (a, b) :: ps, R, ⟨h1, h2, h3, h4⟩ => by
    rw [fh, hts_rep]
    have ih := hts_fh h4
    rw [show r + (a - r) = a by omega]
    by_cases hab : a = b
    · subst hab
      simp only [if_true, hts, ih]
    · have : b = a + 1 := by omega
      subst this
      simp only [if_neg hab, hts, ih]
theorem rights_fh : ∀ {r : Nat} {ps : List (Nat × Nat)} {R : Nat}, Okh r ps R → r + rights (fh r ps R) = R
  | r, [], R, h => by
    have : r ≤ R := h
    rw [fh]
    simp [rights, List.count_replicate]
    omega
  | r, (a, b) :: ps, R, ⟨h1, h2, h3, h4⟩ => by
    have ih := rights_fh h4
    rw [fh, rights_app, rights_cons]
    have : rights (List.replicate (a - r) Sg.g) = a - r := by simp [rights, List.count_replicate]
    rw [this]
    by_cases hab : a = b
    · subst hab
      simp
      omega
    · simp [hab]
      omega
theorem lefts_fh {r : Nat} {ps : List (Nat × Nat)} {R : Nat} (h : Okh r ps R) : lefts (fh r ps R) = ps.length := by
  rw [← hts_len r, hts_fh h]
def mxp (p q : Nat × Nat) : Nat × Nat := (max p.1 q.1, max p.2 q.2)
def H (s : List Sg) : List (Nat × Nat) := hts 0 s
def join (s t : List Sg) : List Sg := fh 0 (List.zipWith mxp (H s) (H t)) (rights s)
theorem ok_mx : ∀ {r r' : Nat} {ps qs : List (Nat × Nat)} {R : Nat}, Okh r ps R → Okh r' qs R → ps.length = qs.length → Okh (max r r') (List.zipWith mxp ps qs) R
  | r, r', [], [], R, h, h', _ => by have : r ≤ R := h; have : r' ≤ R := h'; show max r r' ≤ R; omega
  | r, r', (a, b) :: ps, (c, d) :: qs, R, ⟨h1, h2, h3, h4⟩, ⟨k1, k2, k3, k4⟩, hl => by
    refine ⟨?_, ?_, ?_, ok_mx h4 k4 (by simpa using hl)⟩ <;> simp only [mxp] <;> omega
  | _, _, [], _ :: _, _, _, _, hl => by simp at hl
  | _, _, _ :: _, [], _, _, _, hl => by simp at hl
/-- of the shape L, R -/
def In (L R : Nat) (s : List Sg) : Prop := lefts s = L ∧ rights s = R
section
variable {L R : Nat} {a b c : List Sg}
theorem In.ok (h : In L R a) : Okh 0 (H a) R := by
  have := hts_ok 0 a
  rwa [h.2, Nat.zero_add] at this
theorem In.len (h : In L R a) : (H a).length = L := by rw [H, hts_len, h.1]
theorem In.inj (ha : In L R a) (hb : In L R b) (h : H a = H b) : a = b := by
  have h1 := fh_hts 0 a
  have h2 := fh_hts 0 b
  unfold H at h
  rw [← h1, ← h2, h, ha.2, hb.2]
theorem join_H (ha : In L R a) (hb : In L R b) : H (join a b) = List.zipWith mxp (H a) (H b) ∧ In L R (join a b) := by
  have ok : Okh 0 _ R := ok_mx ha.ok hb.ok (by rw [ha.len, hb.len])
  refine ⟨?_, ?_, ?_⟩
  · unfold join
    rw [ha.2]
    exact hts_fh ok
  · unfold join
    rw [ha.2, lefts_fh ok, List.length_zipWith, ha.len, hb.len, Nat.min_self]
  · unfold join
    rw [ha.2]
    have := rights_fh ok
    simpa using this
theorem In.join (ha : In L R a) (hb : In L R b) : In L R (join a b) := (join_H ha hb).2
end
end ZZ
set_option Elab.async false
set_option linter.all false
set_option maxRecDepth 100000
namespace ZZ
open PySem PySem.Spec L2
mutual
/-- strings in order, no instance, at most n deep -/
def okD : Nat → D → Bool
  | _, .non => true
  | _, .bl _ => true
  | _, .int _ => true
  | _, .str s => PyData.strOk s
  | 0, .tup _ => false
  | 0, .lst _ => false
  | 0, .wl _ => false
  | n + 1, .tup ds => okDs n ds
  | n + 1, .lst ds => okDs n ds
  | n + 1, .wl ds => okDs n ds
  | _, .ins _ _ => false
  | _, .dct _ _ => false
def okDs : Nat → List D → Bool
  | _, [] => true
  | n, d :: ds => okD n d && okDs n ds
end
mutual
/-- == on values without instances -/
def eqD : D → D → Bool
  | .non, .non => true
  | .bl a, .bl b => a == b
  | .bl a, .int j => (if a then 1 else 0) == j
  | .int i, .bl b => i == (if b then 1 else 0)
  | .int i, .int j => i == j
  | .str x, .str y => x == y
  | .lst xs, .lst ys => eqDs xs ys
  | .lst xs, .wl ys => eqDs xs ys
  | .wl xs, .lst ys => eqDs xs ys
  | .wl xs, .wl ys => eqDs xs ys
  | .tup xs, .tup ys => eqDs xs ys
  | _, _ => false
def eqDs : List D → List D → Bool
  | [], [] => true
  | x :: xs, y :: ys => eqD x y && eqDs xs ys
  | _, _ => false
end
mutual
theorem okD_py : ∀ (n : Nat) (d : D), okD n d = true → ∃ p, toPy d = some p ∧ p.canLay0 = true ∧ p.depth ≤ n + 1
  | _, .non, _ => ⟨.none, rfl, rfl, by simp [PyData.depth]⟩
  | _, .bl b, _ => ⟨.bool b, rfl, rfl, by simp [PyData.depth]⟩
  | _, .int b, _ => ⟨.int b, rfl, rfl, by simp [PyData.depth]⟩
  | _, .str b, h => ⟨.str b, rfl, by rw [PyData.canLay0]; simpa [okD] using h, by simp [PyData.depth]⟩
  | 0, .tup _, h => by simp [okD] at h
  | 0, .lst _, h => by simp [okD] at h
  | 0, .wl _, h => by simp [okD] at h
  | n + 1, .tup ds, h => by
    obtain ⟨ps, h1, h2, h3⟩ := okDs_py n ds (by simpa [okD] using h)
    exact ⟨.tuple ps, by rw [toPy, h1]; rfl, by rw [PyData.canLay0]; exact h2, by rw [PyData.depth]; omega⟩
  | n + 1, .lst ds, h => by
    obtain ⟨ps, h1, h2, h3⟩ := okDs_py n ds (by simpa [okD] using h)
    exact ⟨.list ps, by rw [toPy, h1]; rfl, by rw [PyData.canLay0]; exact h2, by rw [PyData.depth]; omega⟩
  | n + 1, .wl ds, h => by
    obtain ⟨ps, h1, h2, h3⟩ := okDs_py n ds (by simpa [okD] using h)
    exact ⟨.list ps, by rw [toPy, h1]; rfl, by rw [PyData.canLay0]; exact h2, by rw [PyData.depth]; omega⟩
  | 0, .ins _ _, h => by simp [okD] at h
  | _ + 1, .ins _ _, h => by simp [okD] at h
  | 0, .dct _ _, h => by simp [okD] at h
  | _ + 1, .dct _ _, h => by simp [okD] at h
theorem okDs_py : ∀ (n : Nat) (ds : List D), okDs n ds = true → ∃ ps, toPys ds = some ps ∧ PyData.canLayAll0 ps = true ∧ PyData.depthAll ps ≤ n + 1
  | _, [], _ => ⟨[], rfl, rfl, by simp [PyData.depthAll]⟩
  | n, d :: ds, h => by
    have h' : okD n d = true ∧ okDs n ds = true := by simpa [okDs] using h
    obtain ⟨p, a1, a2, a3⟩ := okD_py n d h'.1
    obtain ⟨ps, b1, b2, b3⟩ := okDs_py n ds h'.2
    refine ⟨p :: ps, by rw [toPys, a1, b1], by rw [PyData.canLayAll0, a2, b2]; rfl, by rw [PyData.depthAll]; omega⟩
end
mutual
theorem eqv_eqD : ∀ (d e : D) (p q : PyData), toPy d = some p → toPy e = some q → PyData.eqv p q = eqD d e
  | .non, e, p, q, hp, hq => by
    cases hp
    cases e <;> simp only [toPy, Option.map_eq_some_iff, Option.some.injEq, reduceCtorEq] at hq <;> first | (cases hq; rfl) | (obtain ⟨_, _, rfl⟩ := hq; rfl) | (subst hq; rfl)
  | .bl b, e, p, q, hp, hq => by
    cases hp
    cases e <;> simp only [toPy, Option.map_eq_some_iff, Option.some.injEq, reduceCtorEq] at hq <;> first | (cases hq; rfl) | (obtain ⟨_, _, rfl⟩ := hq; rfl) | (subst hq; rfl)
  | .int b, e, p, q, hp, hq => by
    cases hp
    cases e <;> simp only [toPy, Option.map_eq_some_iff, Option.some.injEq, reduceCtorEq] at hq <;> first | (cases hq; rfl) | (obtain ⟨_, _, rfl⟩ := hq; rfl) | (subst hq; rfl)
  | .str b, e, p, q, hp, hq => by
    cases hp
    cases e <;> simp only [toPy, Option.map_eq_some_iff, Option.some.injEq, reduceCtorEq] at hq <;> first | (cases hq; rfl) | (obtain ⟨_, _, rfl⟩ := hq; rfl) | (subst hq; rfl)
  | .ins _ _, e, p, q, hp, hq => by simp [toPy] at hp
  | .tup xs, e, p, q, hp, hq => by
    simp only [toPy, Option.map_eq_some_iff] at hp
    obtain ⟨ps, hps, rfl⟩ := hp
    cases e <;> simp only [toPy, Option.map_eq_some_iff, Option.some.injEq, reduceCtorEq] at hq
    case tup ys =>
      obtain ⟨qs, hqs, rfl⟩ := hq
      rw [PyData.eqv, eqD]
      exact eqvs_eqDs xs ys ps qs hps hqs
    all_goals first | (cases hq; rfl) | (obtain ⟨_, _, rfl⟩ := hq; rfl) | (subst hq; rfl)
  | .lst xs, e, p, q, hp, hq => by
    simp only [toPy, Option.map_eq_some_iff] at hp
    obtain ⟨ps, hps, rfl⟩ := hp
    cases e <;> simp only [toPy, Option.map_eq_some_iff, Option.some.injEq, reduceCtorEq] at hq
    case lst ys =>
      obtain ⟨qs, hqs, rfl⟩ := hq
      rw [PyData.eqv, eqD]
      exact eqvs_eqDs xs ys ps qs hps hqs
    case wl ys =>
      obtain ⟨qs, hqs, rfl⟩ := hq
      rw [PyData.eqv, eqD]
      exact eqvs_eqDs xs ys ps qs hps hqs
    all_goals first | (cases hq; rfl) | (obtain ⟨_, _, rfl⟩ := hq; rfl) | (subst hq; rfl)
  | .wl xs, e, p, q, hp, hq => by
    simp only [toPy, Option.map_eq_some_iff] at hp
    obtain ⟨ps, hps, rfl⟩ := hp
    cases e <;> simp only [toPy, Option.map_eq_some_iff, Option.some.injEq, reduceCtorEq] at hq
    case lst ys =>
      obtain ⟨qs, hqs, rfl⟩ := hq
      rw [PyData.eqv, eqD]
      exact eqvs_eqDs xs ys ps qs hps hqs
    case wl ys =>
      obtain ⟨qs, hqs, rfl⟩ := hq
      rw [PyData.eqv, eqD]
      exact eqvs_eqDs xs ys ps qs hps hqs
    all_goals first | (cases hq; rfl) | (obtain ⟨_, _, rfl⟩ := hq; rfl) | (subst hq; rfl)
theorem eqvs_eqDs : ∀ (ds es : List D) (ps qs : List PyData), toPys ds = some ps → toPys es = some qs → PyData.eqvAll ps qs = eqDs ds es
  | [], [], ps, qs, hp, hq => by cases hp; cases hq; rfl
  | [], e :: es, ps, qs, hp, hq => by
    cases hp
    rw [toPys] at hq
    split at hq
    · cases hq; rfl
    · cases hq
  | d :: ds, [], ps, qs, hp, hq => by
    cases hq
    rw [toPys] at hp
    split at hp
    · cases hp; rfl
    · cases hp
  | d :: ds, e :: es, ps, qs, hp, hq => by
    rw [toPys] at hp hq
    split at hp
    · rename_i p ps' h1 h2
      cases hp
      split at hq
      · rename_i q qs' h3 h4
        cases hq
        rw [PyData.eqvAll, eqDs, eqv_eqD d e p q h1 h3, eqvs_eqDs ds es ps' qs' h2 h4]
      · cases hq
    · cases hp
end
theorem pyEq_ok {d e : D} (hd : okD 60 d = true) (he : okD 60 e = true) : pyEq d e = some (eqD d e) := by
  obtain ⟨p, a1, a2, a3⟩ := okD_py 60 d hd
  obtain ⟨q, b1, b2, b3⟩ := okD_py 60 e he
  unfold pyEq
  simp only [a1, b1]
  have sh : ∀ r : PyData, r.canLay0 = true → r.depth ≤ 60 + 1 → SeqAt.shaped r = true := fun r h1 h2 => by
    unfold SeqAt.shaped
    rw [Bool.and_eq_true]
    exact ⟨h1, by rw [decide_eq_true_eq]; omega⟩
  rw [if_pos ⟨sh p a2 a3, sh q b2 b3⟩, eqv_eqD d e p q a1 b1]
theorem eq_gd {d e : D} {neg : Bool} {sl : Sl} {ce : List Cell} (hd : okD 60 d = true) (he : okD 60 e = true) : kEqG neg (.im d) (.im e) sl ce = .ok (.im (.bl (if neg then !eqD d e else eqD d e))) ce := by
  unfold kEqG
  simp only [asIm, pyEq_ok hd he]
mutual
theorem eqD_refl : ∀ (d : D) (n : Nat), okD n d = true → eqD d d = true
  | .non, _, _ => rfl
  | .bl b, _, _ => by simp [eqD]
  | .int b, _, _ => by simp [eqD]
  | .str b, _, _ => by simp [eqD]
  | .tup ds, 0, h => by simp [okD] at h
  | .lst ds, 0, h => by simp [okD] at h
  | .wl ds, 0, h => by simp [okD] at h
  | .tup ds, n + 1, h => by rw [eqD]; exact eqDs_refl ds n (by simpa [okD] using h)
  | .lst ds, n + 1, h => by rw [eqD]; exact eqDs_refl ds n (by simpa [okD] using h)
  | .wl ds, n + 1, h => by rw [eqD]; exact eqDs_refl ds n (by simpa [okD] using h)
  | .ins _ _, 0, h => by simp [okD] at h
  | .ins _ _, n + 1, h => by simp [okD] at h
  | .dct _ _, 0, h => by simp [okD] at h
  | .dct _ _, n + 1, h => by simp [okD] at h
theorem eqDs_refl : ∀ (ds : List D) (n : Nat), okDs n ds = true → eqDs ds ds = true
  | [], _, _ => rfl
  | d :: ds, n, h => by
    have h' : okD n d = true ∧ okDs n ds = true := by simpa [okDs] using h
    rw [eqDs, eqD_refl d n h'.1, eqDs_refl ds n h'.2]
    rfl
end
theorem okDs_all {n : Nat} : ∀ {ds : List D}, (∀ d ∈ ds, okD n d = true) → okDs n ds = true
  | [], _ => by simp [okDs]
  | x :: xs, h => by rw [okDs, h x (List.mem_cons_self ..), okDs_all fun d hd => h d (List.mem_cons_of_mem _ hd)]; rfl
theorem rng1 (n : Nat) (h : n < 2 ^ 60) : kRng1 [.im (.int (n : Int))] = some ((List.range n).map fun (i : Nat) => D.int (i : Int)) := by
  have hz : isz (n : Int) = true := isz_of (by omega)
  unfold kRng1
  simp only [hz, if_true, Int.toNat_natCast]
  unfold rangeD
  refine congrArg some (List.map_congr_left fun i _ => ?_)
  rw [Int.zero_add, Int.mul_one]
theorem atI_nat {α : Type} (l : List α) (k : Nat) (v : α) (h : l[k]? = some v) : atI l (k : Int) = some v := by
  have hlt := (List.getElem?_eq_some_iff.mp h).1
  unfold atI ixN
  rw [if_pos (by omega), if_pos (by omega), Int.toNat_natCast, Option.bind_some, h]
theorem ix_lst {l : List D} {k : Nat} {v : D} (h : l[k]? = some v) {sl : Sl} {ce : List Cell} : kIx (.im (.lst l)) (.im (.int k)) sl ce = .ok (.im v) ce := by
  unfold kIx
  simp only [asSq, atI_nat l k v h]
theorem ix_tup {l : List D} {k : Nat} {v : D} (h : l[k]? = some v) {sl : Sl} {ce : List Cell} : kIx (.im (.tup l)) (.im (.int k)) sl ce = .ok (.im v) ce := by
  unfold kIx
  simp only [asSq, atI_nat l k v h]
theorem set_same {ce : List Cell} {k : Nat} {c : Cell} (h : ce[k]? = some c) : ce.set k c = ce := by
  refine List.ext_getElem? fun j => ?_
  by_cases hj : k = j
  · subst hj
    rw [List.getElem?_set_self (List.getElem?_eq_some_iff.mp h).1, h]
  · rw [List.getElem?_set_ne hj]
theorem set_take {ce : List Cell} {k : Nat} {c : Cell} : (ce.set k c).take ce.length = ce.set k c := List.take_of_length_le (by simp)
/-- a comprehension whose items change nothing -/
theorem lcD_map {β : Type} {own : List Nat} {g : GD} {t f : DE} {sl : Sl} (ce : List Cell) (F φ : β → D) (p : β → Bool) : ∀ (bs : List β) (acc : List D), acc.length + bs.length < 16777216 →
    (∀ b ∈ bs, ∀ acc : List D, ∃ sl1, g (F b) (wipeD sl own) = some sl1 ∧ t sl1 (ce ++ [.lst acc]) = .ok (.im (.bl (p b))) (ce ++ [.lst acc]) ∧ (p b = true → f sl1 (ce ++ [.lst acc]) = .ok (.im (φ b)) (ce ++ [.lst acc]))) →
    lcD own g t f ce.length (bs.map F) sl (ce ++ [.lst acc]) = .ok (.cell ce.length) (ce ++ [.lst (acc ++ (bs.filter p).map φ)])
  | [], acc, hl, h => by rw [List.map_nil, lcD]; simp
  | d :: ds, acc, hl, h => by
    rw [List.length_cons] at hl
    obtain ⟨sl1, h1, h2, h3⟩ := h d (List.mem_cons_self ..) acc
    rw [List.map_cons, lcD]
    simp only [h1, h2]
    cases hp : p d with
    | true =>
      have ih := lcD_map ce F φ p ds (acc ++ [φ d]) (by rw [List.length_append, List.length_singleton]; omega) fun d hd => h d (List.mem_cons_of_mem _ hd)
      rw [if_pos rfl]
      simp only [h3 hp, ce_get0, List.getElem?_cons_zero, ce_set0, List.set_cons_zero]
      rw [if_pos (by show acc.length < 16777216; omega), ih, List.filter_cons_of_pos hp, List.map_cons, List.append_assoc, List.singleton_append]
    | false =>
      have ih := lcD_map ce F φ p ds acc (by omega) fun d hd => h d (List.mem_cons_of_mem _ hd)
      rw [if_neg (by decide), ih, List.filter_cons_of_neg (by simp [hp])]
theorem lc_filter {β : Type} {own : List Nat} {fi : DI} {g : GD} {t f : DE} {sl : Sl} {ce : List Cell} (bs : List β) (F φ : β → D) (p : β → Bool) (hi : fi sl ce = .ok (bs.map F) ce) (hl : bs.length < 16777216)
    (h : ∀ b ∈ bs, ∀ acc : List D, ∃ sl1, g (F b) (wipeD sl own) = some sl1 ∧ t sl1 (ce ++ [.lst acc]) = .ok (.im (.bl (p b))) (ce ++ [.lst acc]) ∧ (p b = true → f sl1 (ce ++ [.lst acc]) = .ok (.im (φ b)) (ce ++ [.lst acc]))) :
    eSettle (eLcC own fi g t f) sl ce = .ok (.im (.lst ((bs.filter p).map φ))) ce := by
  unfold eSettle eLcC
  simp only [hi]
  rw [lcD_map ce F φ p bs [] (by rw [List.length_nil]; omega) h]
  simp only [ce_get0, List.getElem?_cons_zero, List.nil_append, ce_set0, ce_take]
theorem lc_map {β : Type} {own : List Nat} {fi : DI} {g : GD} {f : DE} {sl : Sl} {ce : List Cell} (bs : List β) (F φ : β → D) (hi : fi sl ce = .ok (bs.map F) ce) (hl : bs.length < 16777216)
    (h : ∀ b ∈ bs, ∀ acc : List D, ∃ sl1, g (F b) (wipeD sl own) = some sl1 ∧ f sl1 (ce ++ [.lst acc]) = .ok (.im (φ b)) (ce ++ [.lst acc])) :
    eSettle (eLcC own fi g (eC (.bl true)) f) sl ce = .ok (.im (.lst (bs.map φ))) ce := by
  have := lc_filter (own := own) (fi := fi) (g := g) (t := eC (.bl true)) (f := f) (sl := sl) (ce := ce) bs F φ (fun _ => true) hi hl (fun d hd acc => by
    obtain ⟨sl1, h1, h2⟩ := h d hd acc
    exact ⟨sl1, h1, rfl, fun _ => h2⟩)
  rw [this]
  congr 4
  simp
end ZZ
set_option Elab.async false
set_option linter.all false
set_option maxRecDepth 100000
set_option maxHeartbeats 4000000
namespace ZZ
open PySem PySem.Spec L2
theorem enum_ps (F : Sg → D) (s : List Sg) : ∃ ps : List (Int × Sg), ps.map Prod.snd = s ∧ enumD (s.map F) = ps.map fun p => D.tup [.int p.1, F p.2] := by
  have key : ∀ (s pre : List Sg), ∃ ps : List (Int × Sg), ps.map Prod.snd = s ∧ (List.range' pre.length s.length).filterMap (fun (i : Nat) => ((pre ++ s).map F)[i]?.map fun d => D.tup [.int (i : Int), d]) = ps.map fun p => D.tup [.int p.1, F p.2] := by
    intro s
    induction s with
    | nil => intro pre; exact ⟨[], rfl, rfl⟩
    | cons c s ih =>
      intro pre
      obtain ⟨ps, h1, h2⟩ := ih (pre ++ [c])
      refine ⟨((pre.length : Int), c) :: ps, by rw [List.map_cons, h1], ?_⟩
      rw [List.length_cons, List.range'_succ, List.filterMap_cons]
      have e : ((pre ++ c :: s).map F)[pre.length]? = some (F c) := by simp
      rw [e, Option.map_some]
      simp only
      rw [List.length_append, List.length_singleton, List.append_assoc, List.singleton_append] at h2
      rw [h2]
      rfl
  obtain ⟨ps, h1, h2⟩ := key s []
  refine ⟨ps, h1, ?_⟩
  unfold enumD
  rw [List.range_eq_range', List.length_map]
  exact h2
theorem sl1 : ("<" : Str) = txt [.l] := txt_l.symm
theorem sl2 : ("=" : Str) = txt [.e] := txt_e.symm
theorem sl3 : (">" : Str) = txt [.g] := txt_g.symm
theorem eq_txt {a b : List Sg} {neg : Bool} {sl : Sl} {ce : List Cell} : kEqG neg (.im (.str (txt a))) (.im (.str (txt b))) sl ce = .ok (.im (.bl (if neg then !decide (a = b) else decide (a = b)))) ce := by
  rw [eq_str (txt_ok a) (txt_ok b)]
  simp only [txt_eq]
theorem app_ok {ce : List Cell} {acc : List D} {d : D} {sl : Sl} (h : acc.length < LINE) : kAppend (.cell ce.length) [.im d] sl (ce ++ [.lst acc]) = .ok (.im .non) (ce ++ [.lst (acc ++ [d])]) := by
  unfold kAppend
  simp only [ce_get0, List.getElem?_cons_zero, h, if_true, ce_set0, List.set_cons_zero]
theorem strs_map (ls : List (List Sg)) : asStrs (ls.map fun s => D.str (txt s)) = some (ls.map txt) := by
  induction ls with
  | nil => rfl
  | cons a ls ih =>
    rw [List.map_cons, asStrs, ih]
    rfl
theorem sum_len : ∀ ls : List (List Sg), ((ls.map txt).map (·.length)).sum = ls.flatten.length
  | [] => rfl
  | a :: ls => by
    rw [List.map_cons, List.map_cons, List.sum_cons, sum_len ls, txt_len, List.flatten_cons, List.length_append]
section
variable {sl : Sl} {ce : List Cell}
theorem rep_s (c : Sg) (n : Nat) (h : n ≤ 1000) : kRepS (.im (.str (txt [c]))) (.im (.int n)) sl ce = .ok (.im (.str (txt (List.replicate n c)))) ce := by
  unfold kRepS
  simp only [txt_len, List.length_singleton]
  rw [if_pos ⟨by omega, by omega, by omega⟩, txt_mul, Int.toNat_natCast]
theorem add_s (x y : List Sg) (h : x.length + y.length ≤ 16777216) : kAdd (.im (.str (txt x))) (.im (.str (txt y))) sl ce = .ok (.im (.str (txt (x ++ y)))) ce := by
  unfold kAdd
  simp only [txt_len, txt_app]
  rw [if_pos h]
end
end ZZ
namespace ZZ
open PySem PySem.Spec L2
theorem ix_txt (s : List Sg) (k : Nat) (c : Sg) (h : s[k]? = some c) (h2 : s.length ≤ 16777216) {sl : Sl} {ce : List Cell} : kIx (.im (.str (txt s))) (.im (.int (k : Int))) sl ce = .ok (.im (.str (txt [c]))) ce := by
  unfold kIx
  simp only [txt_len, h2, if_true]
  have e : (txt s).cps.toList = s.map Sg.code := by unfold txt st; simp
  have h3 : (s.map Sg.code)[k]? = some c.code := by rw [List.getElem?_map, h]; rfl
  rw [e, atI_nat _ _ _ h3]
  rfl
/-- a loop that tests: it goes on or returns -/
theorem forD_all {β : Type} {i : Nat} {body : DSt} {sl : Sl} {ce : List Cell} {v : Val} (F : β → D) (p : β → Bool) : ∀ (bs : List β) (y : Option Val),
    (∀ b ∈ bs, (p b = true → body (sl.set i (some (.im (F b)))) ce = .nx (sl.set i (some (.im (F b)))) ce) ∧ (p b = false → body (sl.set i (some (.im (F b)))) ce = .rt v ce)) →
    ∃ y', (bs.all p = true → forD (gN i) body (bs.map F) (sl.set i y) ce = .nx (sl.set i y') ce) ∧ (bs.all p = false → forD (gN i) body (bs.map F) (sl.set i y) ce = .rt v ce)
  | [], y, h => ⟨y, fun _ => by rw [List.map_nil, forD], fun h => by cases h⟩
  | b :: bs, y, h => by
    obtain ⟨y', e1, e2⟩ := forD_all F p bs (some (.im (F b))) fun d hd => h d (List.mem_cons_of_mem _ hd)
    have h1 := h b (List.mem_cons_self ..)
    refine ⟨y', fun hb => ?_, fun hb => ?_⟩
    · rw [List.all_cons, Bool.and_eq_true] at hb
      rw [List.map_cons, forD]
      simp only [gN, List.set_set, h1.1 hb.1]
      exact e1 hb.2
    · rw [List.all_cons] at hb
      rw [List.map_cons, forD]
      simp only [gN, List.set_set]
      by_cases hp : p b = true
      · rw [hp, Bool.true_and] at hb
        simp only [h1.1 hp]
        exact e2 hb
      · simp only [h1.2 (Bool.eq_false_iff.mpr hp)]
end ZZ
set_option Elab.async false
set_option linter.all false
set_option maxRecDepth 100000
set_option maxHeartbeats 4000000
namespace ZZ
open PySem PySem.Spec L2
def swp : Sg → Sg
  | .l => .g
  | .e => .e
  | .g => .l
def swap (s : List Sg) : List Sg := s.map swp
theorem swp_swp (c : Sg) : swp (swp c) = c := by cases c <;> rfl
def sh (k : Nat) (p : Nat × Nat) : Nat × Nat := (p.1 + k, p.2 + k)
/-- how a left and a right layer lie: -1 older, 0 one, 1 younger -/
def rel : List Sg → Nat → Nat → Int
  | [], _, _ => 0
  | .l :: _, 0, _ => -1
  | .l :: s, i + 1, j => rel s i j
  | .g :: _, _, 0 => 1
  | .g :: s, i, j + 1 => rel s i j
  | .e :: _, 0, 0 => 0
  | .e :: _, 0, _ + 1 => -1
  | .e :: _, _ + 1, 0 => 1
  | .e :: s, i + 1, j + 1 => rel s i j
end ZZ
set_option Elab.async false
set_option linter.all false
set_option maxRecDepth 100000
set_option maxHeartbeats 4000000
namespace ZZ
open PySem PySem.Spec L2 L2H
noncomputable section
def flds : Nat → List Str
  | 0 => ["index"]
  | 1 => ["steps", "rows"]
  | _ => []
abbrev Zz (w : World) (K : PySem.W.Frag) (cl : Nat → Addr) : Zx := ⟨K, cl, flds, w⟩
abbrev e_BadRecord : Nat := 0
abbrev c_Record : Nat := 1
def i_bool : Ty → Option Bool
  | .t "NoneType" => some false
  | .t "bool" => some true
  | .t "int" => some false
  | .t "str" => some false
  | .t "tuple" => some false
  | .t "list" => some false
  | .c 1 => some false
  | _ => none
def i_int : Ty → Option Bool
  | .t "NoneType" => some false
  | .t "bool" => some true
  | .t "int" => some true
  | .t "str" => some false
  | .t "tuple" => some false
  | .t "list" => some false
  | .c 1 => some false
  | _ => none
def i_str : Ty → Option Bool
  | .t "NoneType" => some false
  | .t "bool" => some false
  | .t "int" => some false
  | .t "str" => some true
  | .t "tuple" => some false
  | .t "list" => some false
  | .c 1 => some false
  | _ => none
def i_tuple : Ty → Option Bool
  | .t "NoneType" => some false
  | .t "bool" => some false
  | .t "int" => some false
  | .t "str" => some false
  | .t "tuple" => some true
  | .t "list" => some false
  | .c 1 => some false
  | _ => none
def lp_runs_0 : DSt :=
  (sIf (eAnd (eTru (eV 1)) (eBin kEq (eBin kIx (eBin kIx (eV 1) (eUn kNeg (eC (.int 1)))) (eC (.int 0))) (eV 2)))
    (sSetIx (eV 1) (eUn kNeg (eC (.int 1))) (eArgs [(eV 2), (eBin kAdd (eBin kIx (eBin kIx (eV 1) (eUn kNeg (eC (.int 1)))) (eC (.int 1))) (eC (.int 1)))] kTup))
    (sDrop (eMth tyL kAppend (eV 1) [(eArgs [(eV 2), (eC (.int 1))] kTup)])))
def b_runs : DSt :=
  (sSeq (sSet 1 (eArgs [] kLstC)) (sSeq (sFor (iExp (eV 0) itS) (gN 2) lp_runs_0) (frz 1 (sRet (eV 1)))))
def f_runs : DF := mkD 3 b_runs
def lp_Record___init___0 : DSt :=
  (sSeq (sIf (eUn (kInK d_SWAPPED true) (eV 6))
    (sRaise e_BadRecord [(eV 5)])
    sNil) (sSeq (sDrop (eMth tyL kAppend (eV 2) [(eArgs [(eIf (eBin kEq (eV 6) (eC (.str ">"))) (eC .non) (eV 3)), (eIf (eBin kEq (eV 6) (eC (.str "<"))) (eC .non) (eV 4))] kTup)])) (sSeq (sSet 3 (eBin kAdd (eV 3) (eArgs [(eBin kNe (eV 6) (eC (.str ">")))] kInt))) (sSet 4 (eBin kAdd (eV 4) (eArgs [(eBin kNe (eV 6) (eC (.str "<")))] kInt))))))
def b_Record___init__ : DSt :=
  (sSeq (sSet 2 (eArgs [] kLstC)) (sSeq (sSet 3 (eC (.int 0))) (sSeq (sSet 4 (eC (.int 0))) (sSeq (sFor (iArgs [(eV 1)] kEnumS) (gT [(gN 5), (gN 6)]) lp_Record___init___0) (sSeq (sFldSet c_Record 0 (eV 0) (eV 1)) (frz 2 (sFldSet c_Record 1 (eV 0) (eV 2))))))))
def f_Record___init__ : DF := mkD 7 b_Record___init__
def b_Record___len__ : DSt :=
  (sRet (eArgs [(eUn (kFld c_Record 0) (eV 0))] kLen))
def f_Record___len__ : DF := mkD 1 b_Record___len__
noncomputable def lp_Record_floods_0 (c0 : List Cell) : DGn :=
  (gSeq (gIf (eBin kEq (eV 3) (eC (.str ">")))
    (gSeq (zYld c0 (eArgs [(eC (.str "left")), (eV 1), (eV 2), (eBin kAdd (eV 2) (eV 4))] kTup)) gNil)
    gNil) (gSeq (gIf (eBin kEq (eV 3) (eC (.str "<")))
    (gSeq (zYld c0 (eArgs [(eC (.str "right")), (eV 2), (eV 1), (eBin kAdd (eV 1) (eV 4))] kTup)) gNil)
    gNil) (gSeq (gPl (sIf (eBin kNe (eV 3) (eC (.str ">")))
    (sAug 1 kAddI (eV 4))
    sNil)) (gSeq (gPl (sIf (eBin kNe (eV 3) (eC (.str "<")))
    (sAug 2 kAddI (eV 4))
    sNil)) gNil))))
noncomputable def b_Record_floods : List Cell → DGn := fun c0 =>
  (gSeq (gPl (sSet 1 (eC (.int 0)))) (gSeq (gPl (sSet 2 (eC (.int 0)))) (gSeq (gFor (iExp (eArgs [(eUn (kFld c_Record 0) (eV 0))] (kCall f_runs)) itL) (gT [(gN 3), (gN 4)]) (lp_Record_floods_0 c0)) gNil)))
def el_Record___neg___0 : DE :=
  (eUn (kItK d_SWAPPED) (eV 1))
def b_Record___neg__ : DSt :=
  (sRet (eArgs [(eMth tyS kJoin (eC (.str "")) [(eSettle (eLcC [1] (iExp (eUn (kFld c_Record 0) (eV 0)) itS) (gN 1) (eC (.bl true)) el_Record___neg___0))])] (kMake c_Record 2 f_Record___init__)))
def f_Record___neg__ : DF := mkD 2 b_Record___neg__
def b__law_mix : DSt :=
  (sSeq (sSet 2 (eBin kMod (eArgs [(eBin kAdd (eBin kMul (eBin kMul (eV 0) (eC (.int 97))) (eBin kAdd (eV 1) (eC (.int 1)))) (eBin kMul (eC (.int 31)) (eV 1)))] kInt) (eC (.int 1000003)))) (sRet (eBin kAdd (eV 2) (eBin kDiv (eBin kMul (eV 2) (eV 2)) (eC (.int 1013))))))
def f__law_mix : DF := mkD 3 b__law_mix
def lp__law_pool_0 : DSt :=
  (sIf (eAnd (eTru (eV 6)) (eBin kGt (eV 5) (eC (.int 0))))
    (sSeq (sDrop (eMth tyL kAppend (eV 2) [(eBin kMod (eArgs [(eV 5)] kInt) (eC (.int 1000003)))])) (sSet 5 (eBin kDiv (eV 5) (eC (.int 1000003)))))
    (sIf (eAnd (eNot (eTru (eV 6))) (eBin kLt (eV 7) (eC (.int 6))))
    (sDrop (eMth tyL kAppend (eV 2) [(eArgs [(eBin kIx (eV 0) (eV 4)), (eV 7)] (kCall f__law_mix))]))
    sNil))
def lp__law_pool_1 : DSt :=
  (sSeq (sSet 3 (eBin kMod (eArgs [(eBin kAdd (eV 3) (eBin kMul (eBin kIx (eV 0) (eV 4)) (eBin kAdd (eV 4) (eC (.int 1)))))] kInt) (eC (.int 1000003)))) (sSeq (sSet 5 (eArgs [(eBin kIx (eV 0) (eV 4))] kAbs)) (sSeq (sSet 6 (eBin kGe (eV 5) (eBin kPow (eC (.int 10)) (eC (.int 18))))) (sFor (iArgs [(eC (.int 60))] kRng1) (gN 7) lp__law_pool_0))))
def lp__law_pool_2 : DSt :=
  (sIf (eBin kLt (eArgs [(eV 2)] kLen) (eV 1))
    (sDrop (eMth tyL kAppend (eV 2) [(eArgs [(eV 3), (eArgs [(eV 2)] kLen)] (kCall f__law_mix))]))
    sNil)
def b__law_pool : DSt :=
  (sSeq (sSet 2 (eArgs [] kLstC)) (sSeq (sSet 3 (eC (.int 0))) (sSeq (sFor (iArgs [(eArgs [(eArgs [(eV 0)] kLen), (eC (.int 63))] kMin)] kRng1) (gN 4) lp__law_pool_1) (sSeq (sFor (iArgs [(eV 1)] kRng1) (gN 7) lp__law_pool_2) (sRet (eV 2))))))
def f__law_pool : DF := mkD 8 b__law_pool
def b__law_draw : DSt :=
  (sSeq (sIf (eBin kEq (eArgs [(eV 0)] kLen) (eC (.int 0)))
    (sRet (eC (.int 0)))
    sNil) (sRet (eBin kMod (eArgs [(eMth tyL kPopAt (eV 0) [(eC (.int 0))])] kInt) (eV 1))))
def f__law_draw : DF := mkD 2 b__law_draw
def lp__law_path_0 : DSt :=
  (sSeq (sSet 7 (eBin kIx (eC (.str "<=>=")) (eArgs [(eV 0), (eC (.int 4))] (kCall f__law_draw)))) (sSeq (sIf (eBin kEq (eV 4) (eV 1))
    (sSet 7 (eC (.str ">")))
    sNil) (sSeq (sIf (eBin kEq (eV 5) (eV 2))
    (sSet 7 (eC (.str "<")))
    sNil) (sIf (eOr (eBin kLt (eV 4) (eV 1)) (eBin kLt (eV 5) (eV 2)))
    (sSeq (sSet 3 (eBin kAdd (eV 3) (eV 7))) (sSeq (sSet 4 (eBin kAdd (eV 4) (eArgs [(eBin kNe (eV 7) (eC (.str ">")))] kInt))) (sSet 5 (eBin kAdd (eV 5) (eArgs [(eBin kNe (eV 7) (eC (.str "<")))] kInt)))))
    sNil))))
def b__law_path : DSt :=
  (sSeq (sSet 3 (eC (.str ""))) (sSeq (sSet 4 (eC (.int 0))) (sSeq (sSet 5 (eC (.int 0))) (sSeq (sFor (iArgs [(eBin kAdd (eV 1) (eV 2))] kRng1) (gN 6) lp__law_path_0) (sRet (eV 3))))))
def f__law_path : DF := mkD 8 b__law_path
def b__law_whole : DSt :=
  (sRet (eAnd (eUn (kIsi i_int) (eV 0)) (eNot (eUn (kIsi i_bool) (eV 0)))))
def f__law_whole : DF := mkD 1 b__law_whole
def lp__law_runs_0 : DSt :=
  (sSeq (sSet 7 (eBin kIx (eC (.str "<=>")) (eArgs [(eV 0), (eC (.int 3))] (kCall f__law_draw)))) (sSeq (sSet 8 (eBin kAdd (eC (.int 1)) (eArgs [(eV 0), (eC (.int 9))] (kCall f__law_draw)))) (sSeq (sIf (eBin kNe (eV 7) (eC (.str ">")))
    (sSet 8 (eArgs [(eArgs [(eV 8)] kInt), (eArgs [(eV 4)] kInt)] kMin))
    sNil) (sSeq (sIf (eBin kNe (eV 7) (eC (.str "<")))
    (sSet 8 (eArgs [(eArgs [(eV 8)] kInt), (eArgs [(eV 5)] kInt)] kMin))
    sNil) (sSeq (sSet 3 (eBin kAdd (eV 3) (eBin kRepS (eV 7) (eV 8)))) (sSeq (sSet 4 (eBin kSub (eV 4) (eBin kMul (eV 8) (eArgs [(eBin kNe (eV 7) (eC (.str ">")))] kInt)))) (sSet 5 (eBin kSub (eV 5) (eBin kMul (eV 8) (eArgs [(eBin kNe (eV 7) (eC (.str "<")))] kInt))))))))))
def b__law_runs : DSt :=
  (sSeq (sSet 3 (eC (.str ""))) (sSeq (sSet 4 (eV 1)) (sSeq (sSet 5 (eV 2)) (sSeq (sFor (iArgs [(eC (.int 20))] kRng1) (gN 6) lp__law_runs_0) (sRet (eV 3))))))
def f__law_runs : DF := mkD 9 b__law_runs
def lp__law_due_0 : DSt :=
  (sSeq (sSet 5 (eBin kIx (eV 0) (eV 4))) (sSeq (sSet 6 (eOr (eBin kEq (eV 4) (eC (.int 0))) (eBin kNe (eBin kIx (eV 0) (eBin kSub (eV 4) (eC (.int 1)))) (eV 5)))) (sSeq (sIf (eAnd (eBin kEq (eV 5) (eC (.str ">"))) (eTru (eV 6)))
    (sDrop (eAppR (eV 1) [(eC (.str "left")), (eV 2), (eV 3), (eV 3)]))
    sNil) (sSeq (sIf (eAnd (eBin kEq (eV 5) (eC (.str "<"))) (eTru (eV 6)))
    (sDrop (eAppR (eV 1) [(eC (.str "right")), (eV 3), (eV 2), (eV 2)]))
    sNil) (sSeq (sIf (eBin kNe (eV 5) (eC (.str "=")))
    (sSetRow (eV 1) (eUn kNeg (eC (.int 1))) 3 (eBin kAdd (eBin (kIxR 3) (eV 1) (eUn kNeg (eC (.int 1)))) (eC (.int 1))))
    sNil) (sSeq (sSet 2 (eBin kAdd (eV 2) (eArgs [(eBin kNe (eV 5) (eC (.str ">")))] kInt))) (sSet 3 (eBin kAdd (eV 3) (eArgs [(eBin kNe (eV 5) (eC (.str "<")))] kInt)))))))))
def el__law_due_1 : DE :=
  (eArgs [(eBin kIx (eV 7) (eC (.int 0))), (eBin kIx (eV 7) (eC (.int 1))), (eBin kIx (eV 7) (eC (.int 2))), (eBin kIx (eV 7) (eC (.int 3)))] kTup)
def b__law_due : DSt :=
  (sSeq (sSet 1 eLstR) (sSeq (sSet 2 (eC (.int 0))) (sSeq (sSet 3 (eC (.int 0))) (sSeq (sFor (iArgs [(eArgs [(eV 0)] kLen)] kRng1) (gN 4) lp__law_due_0) (frzR 1 (sRet (eSettle (eLcC [7] (iExp (eV 1) itL) (gN 7) (eC (.bl true)) el__law_due_1))))))))
def f__law_due : DF := mkD 8 b__law_due
def lp__law_right_0 : DSt :=
  (sSeq (sIf (eOr (eNot (eUn (kIsi i_tuple) (eV 3))) (eOr (eBin kNe (eArgs [(eV 3)] kLen) (eC (.int 4))) (eNot (eUn (kIsi i_str) (eBin kIx (eV 3) (eC (.int 0)))))))
    (sRet (eC (.bl false)))
    sNil) (sIf (eOr (eNot (eArgs [(eBin kIx (eV 3) (eC (.int 1)))] (kCall f__law_whole))) (eOr (eNot (eArgs [(eBin kIx (eV 3) (eC (.int 2)))] (kCall f__law_whole))) (eNot (eArgs [(eBin kIx (eV 3) (eC (.int 3)))] (kCall f__law_whole)))))
    (sRet (eC (.bl false)))
    sNil))
def b__law_right : DSt :=
  (sSeq (sSet 2 (eSettle (eLcIM c_Record 5 3 b_Record_floods (eV 0)))) (sSeq (sFor (iExp (eV 2) itL) (gN 3) lp__law_right_0) (sRet (eBin kEq (eV 2) (eV 1)))))
def f__law_right : DF := mkD 4 b__law_right
def lp__law_rows_0 : DSt :=
  (sSeq (sIf (eBin kEq (eV 4) (eC (.str "<")))
    (sDrop (eMth tyL kAppend (eV 1) [(eArgs [(eV 2), (eC .non)] kTup)]))
    sNil) (sSeq (sIf (eBin kEq (eV 4) (eC (.str "=")))
    (sDrop (eMth tyL kAppend (eV 1) [(eArgs [(eV 2), (eV 3)] kTup)]))
    sNil) (sSeq (sIf (eBin kEq (eV 4) (eC (.str ">")))
    (sDrop (eMth tyL kAppend (eV 1) [(eArgs [(eC .non), (eV 3)] kTup)]))
    sNil) (sSeq (sSet 2 (eBin kAdd (eV 2) (eArgs [(eBin kNe (eV 4) (eC (.str ">")))] kInt))) (sSet 3 (eBin kAdd (eV 3) (eArgs [(eBin kNe (eV 4) (eC (.str "<")))] kInt)))))))
def b__law_rows : DSt :=
  (sSeq (sSet 1 (eArgs [] kLstC)) (sSeq (sSet 2 (eC (.int 0))) (sSeq (sSet 3 (eC (.int 0))) (sSeq (sFor (iExp (eV 0) itS) (gN 4) lp__law_rows_0) (frz 1 (sRet (eV 1)))))))
def f__law_rows : DF := mkD 5 b__law_rows
def b__law_other : DSt :=
  (sSeq (sIf (eBin kEq (eBin kIx (eV 0) (eC (.int 0))) (eC (.str "left")))
    (sRet (eArgs [(eC (.str "right")), (eBin kIx (eV 0) (eC (.int 1))), (eBin kIx (eV 0) (eC (.int 2))), (eBin kIx (eV 0) (eC (.int 3)))] kTup))
    sNil) (sRet (eArgs [(eC (.str "left")), (eBin kIx (eV 0) (eC (.int 1))), (eBin kIx (eV 0) (eC (.int 2))), (eBin kIx (eV 0) (eC (.int 3)))] kTup)))
def f__law_other : DF := mkD 1 b__law_other
def el_law_0 : DE :=
  (eArgs [(eV 8)] (kCall f__law_other))
def el_law_1 : DE :=
  (eV 9)
def b_law : DSt :=
  (sSeq (sSet 1 (eArgs [(eV 0), (eC (.int 120))] (kCall f__law_pool))) (sSeq (sSet 2 (eBin kIx (eArgs [(eC (.int 4)), (eC (.int 21))] kLst) (eArgs [(eV 1), (eC (.int 2))] (kCall f__law_draw)))) (sSeq (sSet 3 (eArgs [(eV 1), (eV 2)] (kCall f__law_draw))) (sSeq (sSet 4 (eArgs [(eV 1), (eV 2)] (kCall f__law_draw))) (sSeq (sIf (eBin kEq (eArgs [(eV 1), (eC (.int 2))] (kCall f__law_draw)) (eC (.int 0)))
    (sSet 5 (eArgs [(eV 1), (eV 3), (eV 4)] (kCall f__law_path)))
    (sSet 5 (eArgs [(eV 1), (eV 3), (eV 4)] (kCall f__law_runs)))) (sSeq (sSet 6 (eArgs [(eV 5)] (kMake c_Record 2 f_Record___init__))) (sSeq (sSet 7 (eArgs [(eV 5)] (kCall f__law_due))) (sSeq (sIf (eOr (eNot (eArgs [(eV 6), (eV 7)] (kCall f__law_right))) (eNot (eArgs [(eUn (kOwn1 c_Record f_Record___neg__) (eV 6)), (eSettle (eLcC [8] (iExp (eV 7) itL) (gN 8) (eC (.bl true)) el_law_0))] (kCall f__law_right))))
    (sRet (eC (.bl false)))
    sNil) (sSeq (sIf (eOr (eNot (eArgs [(eV 6), (eV 7)] (kCall f__law_right))) (eBin kNe (eUn (kFld c_Record 0) (eV 6)) (eV 5)))
    (sRet (eC (.bl false)))
    sNil) (sRet (eAnd (eBin kEq (eSettle (eLcC [9] (iExp (eV 6) (itO c_Record 1)) (gN 9) (eC (.bl true)) el_law_1)) (eArgs [(eV 5)] (kCall f__law_rows))) (eBin kEq (eUn (kLenO c_Record f_Record___len__) (eV 6)) (eArgs [(eV 5)] kLen)))))))))))))
def f_law : DF := mkD 10 b_law
end
end ZZ
set_option Elab.async false
set_option linter.all false
set_option maxRecDepth 100000
set_option maxHeartbeats 4000000
namespace ZZ
open PySem PySem.Spec L2 L2H
theorem sc_Record___iter__ : FnScope ["self"] ["self"] (defScope s_Record___iter__) := ⟨rfl, rfl, rfl, by decide +kernel, rfl, by decide +kernel, by decide +kernel⟩
theorem sc_BadRecord___init__ : FnScope ["self", "index"] ["self", "index"] (defScope s_BadRecord___init__) := ⟨rfl, rfl, rfl, by decide +kernel, rfl, by decide +kernel, by decide +kernel⟩
theorem sc_runs : FnScope n_runs ["steps"] (defScope s_runs) := ⟨rfl, rfl, rfl, by decide +kernel, rfl, by decide +kernel, by decide +kernel⟩
theorem sc_Record___init__ : FnScope n_Record___init__ ["self", "steps"] (defScope s_Record___init__) := ⟨rfl, rfl, rfl, by decide +kernel, rfl, by decide +kernel, by decide +kernel⟩
theorem sc_Record___len__ : FnScope n_Record___len__ ["self"] (defScope s_Record___len__) := ⟨rfl, rfl, rfl, by decide +kernel, rfl, by decide +kernel, by decide +kernel⟩
theorem sc_Record_floods : GScope n_Record_floods ["self"] (defScope s_Record_floods) := ⟨rfl, rfl, rfl, by decide +kernel, rfl, by decide +kernel, by decide +kernel⟩
theorem sc_Record___neg__ : FnScope n_Record___neg__ ["self"] (defScope s_Record___neg__) := ⟨rfl, rfl, rfl, by decide +kernel, rfl, by decide +kernel, by decide +kernel⟩
theorem sc__law_mix : FnScope n__law_mix ["_law_cell", "_law_turn"] (defScope s__law_mix) := ⟨rfl, rfl, rfl, by decide +kernel, rfl, by decide +kernel, by decide +kernel⟩
theorem sc__law_pool : FnScope n__law_pool ["_law_script", "_law_many"] (defScope s__law_pool) := ⟨rfl, rfl, rfl, by decide +kernel, rfl, by decide +kernel, by decide +kernel⟩
theorem sc__law_draw : FnScope n__law_draw ["_law_pool_here", "_law_bound"] (defScope s__law_draw) := ⟨rfl, rfl, rfl, by decide +kernel, rfl, by decide +kernel, by decide +kernel⟩
theorem sc__law_path : FnScope n__law_path ["_law_pool_here", "_law_lefts", "_law_rights"] (defScope s__law_path) := ⟨rfl, rfl, rfl, by decide +kernel, rfl, by decide +kernel, by decide +kernel⟩
theorem sc__law_whole : FnScope n__law_whole ["_law_number"] (defScope s__law_whole) := ⟨rfl, rfl, rfl, by decide +kernel, rfl, by decide +kernel, by decide +kernel⟩
theorem sc__law_runs : FnScope n__law_runs ["_law_pool_here", "_law_lefts", "_law_rights"] (defScope s__law_runs) := ⟨rfl, rfl, rfl, by decide +kernel, rfl, by decide +kernel, by decide +kernel⟩
theorem sc__law_due : FnScope n__law_due ["_law_steps"] (defScope s__law_due) := ⟨rfl, rfl, rfl, by decide +kernel, rfl, by decide +kernel, by decide +kernel⟩
theorem sc__law_right : FnScope n__law_right ["_law_record", "_law_due_here"] (defScope s__law_right) := ⟨rfl, rfl, rfl, by decide +kernel, rfl, by decide +kernel, by decide +kernel⟩
theorem sc__law_rows : FnScope n__law_rows ["_law_steps"] (defScope s__law_rows) := ⟨rfl, rfl, rfl, by decide +kernel, rfl, by decide +kernel, by decide +kernel⟩
theorem sc__law_other : FnScope n__law_other ["_law_flood"] (defScope s__law_other) := ⟨rfl, rfl, rfl, by decide +kernel, rfl, by decide +kernel, by decide +kernel⟩
theorem sc_law : FnScope n_law ["_law_script"] (defScope s_law) := ⟨rfl, rfl, rfl, by decide +kernel, rfl, by decide +kernel, by decide +kernel⟩
/-- what the top has written -/
structure Tx (P : Program) (w : World) (K : PySem.W.Frag) (mg : Str → Option Value) (ad cl : Nat → Addr) : Prop where
  b_abs : mg "abs" = none
  b_bool : mg "bool" = none
  b_enumerate : mg "enumerate" = none
  b_int : mg "int" = none
  b_isinstance : mg "isinstance" = none
  b_len : mg "len" = none
  b_min : mg "min" = none
  b_range : mg "range" = none
  b_str : mg "str" = none
  b_tuple : mg "tuple" = none
  f_runs : ∃ fd, Fun K "runs" "runs" s_runs (ad 0) fd ∧ Binds K fd ["steps"] []
  g_runs : mg "runs" = some (.ref (ad 0))
  f_Record___init__ : ∃ fd, Fun K "__init__" "Record.__init__" s_Record___init__ (ad 1) fd ∧ Binds K fd ["self", "steps"] []
  f_Record___len__ : ∃ fd, Fun K "__len__" "Record.__len__" s_Record___len__ (ad 2) fd ∧ Binds K fd ["self"] []
  o1_Record___len__ : Op1 K (cl 1) "__len__" (ad 2)
  f_Record_floods : ∃ fd, Fun K "floods" "Record.floods" s_Record_floods (ad 3) fd ∧ Binds K fd ["self"] []
  m_Record_floods : Meth K (cl 1) "floods" (ad 3)
  f_Record___neg__ : ∃ fd, Fun K "__neg__" "Record.__neg__" s_Record___neg__ (ad 4) fd ∧ Binds K fd ["self"] []
  o1_Record___neg__ : Op1 K (cl 1) "__neg__" (ad 4)
  f__law_mix : ∃ fd, Fun K "_law_mix" "_law_mix" s__law_mix (ad 5) fd ∧ Binds K fd ["_law_cell", "_law_turn"] []
  g__law_mix : mg "_law_mix" = some (.ref (ad 5))
  f__law_pool : ∃ fd, Fun K "_law_pool" "_law_pool" s__law_pool (ad 6) fd ∧ Binds K fd ["_law_script", "_law_many"] []
  g__law_pool : mg "_law_pool" = some (.ref (ad 6))
  f__law_draw : ∃ fd, Fun K "_law_draw" "_law_draw" s__law_draw (ad 7) fd ∧ Binds K fd ["_law_pool_here", "_law_bound"] []
  g__law_draw : mg "_law_draw" = some (.ref (ad 7))
  f__law_path : ∃ fd, Fun K "_law_path" "_law_path" s__law_path (ad 8) fd ∧ Binds K fd ["_law_pool_here", "_law_lefts", "_law_rights"] []
  g__law_path : mg "_law_path" = some (.ref (ad 8))
  f__law_whole : ∃ fd, Fun K "_law_whole" "_law_whole" s__law_whole (ad 9) fd ∧ Binds K fd ["_law_number"] []
  g__law_whole : mg "_law_whole" = some (.ref (ad 9))
  f__law_runs : ∃ fd, Fun K "_law_runs" "_law_runs" s__law_runs (ad 10) fd ∧ Binds K fd ["_law_pool_here", "_law_lefts", "_law_rights"] []
  g__law_runs : mg "_law_runs" = some (.ref (ad 10))
  f__law_due : ∃ fd, Fun K "_law_due" "_law_due" s__law_due (ad 11) fd ∧ Binds K fd ["_law_steps"] []
  g__law_due : mg "_law_due" = some (.ref (ad 11))
  f__law_right : ∃ fd, Fun K "_law_right" "_law_right" s__law_right (ad 12) fd ∧ Binds K fd ["_law_record", "_law_due_here"] []
  g__law_right : mg "_law_right" = some (.ref (ad 12))
  f__law_rows : ∃ fd, Fun K "_law_rows" "_law_rows" s__law_rows (ad 13) fd ∧ Binds K fd ["_law_steps"] []
  g__law_rows : mg "_law_rows" = some (.ref (ad 13))
  f__law_other : ∃ fd, Fun K "_law_other" "_law_other" s__law_other (ad 14) fd ∧ Binds K fd ["_law_flood"] []
  g__law_other : mg "_law_other" = some (.ref (ad 14))
  f_law : ∃ fd, Fun K "law" "law" s_law (ad 15) fd ∧ Binds K fd ["_law_script"] []
  g_law : mg "law" = some (.ref (ad 15))
  g_Record : mg "Record" = some (.ref (cl 1))
  k_Record : ClsOk K (Zz w K cl) 1
  na_Record_steps : NoAttr K (cl 1) "steps"
  na_Record_rows : NoAttr K (cl 1) "rows"
  mk_Record : Mk K (cl 1) (ad 1)
  f_Record___iter__ : ∃ fd, Fun K "__iter__" "Record.__iter__" s_Record___iter__ (ad 17) fd ∧ Binds K fd ["self"] []
  b_iter : mg "iter" = none
  it_Record : Op1 K (cl 1) "__iter__" (ad 17)
  g_BadRecord : mg "BadRecord" = some (.ref (cl 0))
  o_BadRecord : OexC K (cl 0)
  i_BadRecord : PySem.W.findIn K (.ref (cl 0)) "__init__" = some (some (.ref (ad 16)))
  t_BadRecord : PySem.W.typeIn K (.ref (ad 16)) = some (.type "function")
  nx_BadRecord_index : PySem.W.findIn K (.ref (cl 0)) "index" = some none
  f_BadRecord___init__ : ∃ fd, Fun K "__init__" "BadRecord.__init__" s_BadRecord___init__ (ad 16) fd ∧ Binds K fd ["self", "index"] []
  ik_bool : ∀ ty b, i_bool ty = some b → PySem.W.kitOne K (tyVal (Zz w K cl) ty) (.type "bool") = some b
  ic_bool : ∀ c b, i_bool (.c c) = some b → IsiC K (cl c)
  ik_int : ∀ ty b, i_int ty = some b → PySem.W.kitOne K (tyVal (Zz w K cl) ty) (.type "int") = some b
  ic_int : ∀ c b, i_int (.c c) = some b → IsiC K (cl c)
  ik_str : ∀ ty b, i_str ty = some b → PySem.W.kitOne K (tyVal (Zz w K cl) ty) (.type "str") = some b
  ic_str : ∀ c b, i_str (.c c) = some b → IsiC K (cl c)
  ik_tuple : ∀ ty b, i_tuple ty = some b → PySem.W.kitOne K (tyVal (Zz w K cl) ty) (.type "tuple") = some b
  ic_tuple : ∀ c b, i_tuple (.c c) = some b → IsiC K (cl c)
  d_SWAPPED : DctS w K mg "SWAPPED" d_SWAPPED
section
variable {P : Program} {w : World} {K : PySem.W.Frag} {mg : Str → Option Value} {base : Heap} {ad cl : Nat → Addr}
theorem it_Record (T : Tx P w K mg ad cl) : ItOk P w K mg base (cl 1) (ad 17) "rows" := by
  obtain ⟨fd, F, bd⟩ := T.f_Record___iter__
  exact ⟨T.it_Record.hs, T.it_Record.fn, fd, itN F sc_Record___iter__ T.b_iter rfl rfl rfl, bd⟩
theorem io_BadRecord (T : Tx P w K mg ad cl) : IOk P w K mg base (ad 16) ["self", "index"] (spI1 K "index") := by
  obtain ⟨fd, F, bd⟩ := T.f_BadRecord___init__
  refine ⟨⟨fd, F.ok sc_BadRecord___init__ (fun vs H Q E h => ?_) (fun cdv A outer s H vs Q E hr h => ?_), bd⟩⟩
  · obtain ⟨a, C, v, rfl, _⟩ := h
    rfl
  · obtain ⟨a, C, v, rfl, TT, nf, hx, k⟩ := h
    refine ⟨_, pss_one (ps_ost (pv 0) (pv 1)), ?_⟩
    exact ⟨_, rfl, _, rfl, a, C, rfl, TT, nf, .inl ⟨hx, fun dx h1 h2 => k dx h1 h2⟩⟩
theorem x1_BadRecord (T : Tx P w K mg ad cl) : Ex1 P w K mg base (Zz w K cl) 0 "index" (ad 16) ["self", "index"] := ⟨T.o_BadRecord, T.i_BadRecord, T.t_BadRecord, T.nx_BadRecord_index, rfl, io_BadRecord T⟩
theorem ok_runs (T : Tx P w K mg ad cl) : DOk P w K mg base 2 (ad 0) ["steps"] (spD (Zz w K cl) f_runs 1) := by
  obtain ⟨fd, F, bd⟩ := T.f_runs
  refine ⟨⟨fd, fnD F sc_runs (body := b_runs) rfl rfl fun cdv A outer s H E hr => ?_, bd⟩, F.kp⟩
  have tk := L2N.takes_of (X := cxOf (L2N.CX P w) P w K mg base n_runs "runs" (defScope s_runs) (ad 0) cdv A outer s H E) (E := E) rfl rfl rfl rfl
  have tw := tw_of tk
  exact (ds_cons (ds_set (i := 1) sc_runs.nd (de_lstC da_nil)) (ds_cons (ds_for (passes_of rfl) (di_str (dv 0)) (dg_name (i := 2) sc_runs.nd) (ds_one (ds_if (PW.pt (dw_and (dt_tru rfl (dv 1)) (dw_and1 (dt_cmp (c_eq rfl hr) (de_ix rfl (de_ix rfl (dv 1) (de_neg de_int)) de_int) (dv 2))))) (ds_one (ds_setIx (dv 1) (de_neg de_int) (de_tup (da_cons (dv 2) (da_cons (de_add (de_ix rfl (de_ix rfl (dv 1) (de_neg de_int)) de_int) de_int) da_nil))))) (ds_one (ds_expr (de_append rfl (dv 1) (de_tup (da_cons (dv 2) (da_cons de_int da_nil))))))))) (ds_one (ds_frz (ds_ret (dv 1))))))
theorem ok_Record___init__ (T : Tx P w K mg ad cl) : DOk P w K mg base 3 (ad 1) ["self", "steps"] (spD (Zz w K cl) f_Record___init__ 2) := by
  obtain ⟨fd, F, bd⟩ := T.f_Record___init__
  refine ⟨⟨fd, fnD F sc_Record___init__ (body := b_Record___init__) rfl rfl fun cdv A outer s H E hr => ?_, bd⟩, F.kp⟩
  have tk := L2N.takes_of (X := cxOf (L2N.CX P w) P w K mg base n_Record___init__ "Record.__init__" (defScope s_Record___init__) (ad 1) cdv A outer s H E) (E := E) rfl rfl rfl rfl
  have tw := tw_of tk
  exact (ds_cons (ds_set (i := 2) sc_Record___init__.nd (de_lstC da_nil)) (ds_cons (ds_set (i := 3) sc_Record___init__.nd de_int) (ds_cons (ds_set (i := 4) sc_Record___init__.nd de_int) (ds_cons (ds_for (passes_of rfl) (di_enumS T.b_enumerate (da_cons (dv 1) da_nil)) (dg_tup rfl rfl (dgs_cons (dg_name (i := 5) sc_Record___init__.nd) (dgs_cons (dg_name (i := 6) sc_Record___init__.nd) dgs_nil))) (ds_cons (ds_if (dt_notInK T.d_SWAPPED (dv 6)) (ds_one (ds_raise1D rfl rfl tk (x1_BadRecord (P := P) (w := w) (base := base) T) (hr.mono (by decide)) T.g_BadRecord (da_cons (dv 5) da_nil))) ds_nil) (ds_cons (ds_expr (de_append rfl (dv 2) (de_tup (da_cons (de_if (dt_cmp (c_eq rfl hr) (dv 6) de_str) de_non (dv 3)) (da_cons (de_if (dt_cmp (c_eq rfl hr) (dv 6) de_str) de_non (dv 4)) da_nil))))) (ds_cons (ds_set (i := 3) sc_Record___init__.nd (de_add (dv 3) (de_callTy call_int1 ok_int1 T.b_int (by decide +kernel) (da_cons (de_cmpK (c_ne rfl hr) (dv 6) de_str) da_nil)))) (ds_one (ds_set (i := 4) sc_Record___init__.nd (de_add (dv 4) (de_callTy call_int1 ok_int1 T.b_int (by decide +kernel) (da_cons (de_cmpK (c_ne rfl hr) (dv 6) de_str) da_nil))))))))) (ds_cons (ds_fld (dv 0) (dv 1) rfl T.k_Record T.na_Record_steps rfl (by show (flds 1).length < 1000; decide)) (ds_one (ds_frz (ds_fld (dv 0) (dv 2) rfl T.k_Record T.na_Record_rows rfl (by show (flds 1).length < 1000; decide)))))))))
theorem ok_Record___len__ (T : Tx P w K mg ad cl) : DOk P w K mg base 1 (ad 2) ["self"] (spD (Zz w K cl) f_Record___len__ 1) := by
  obtain ⟨fd, F, bd⟩ := T.f_Record___len__
  refine ⟨⟨fd, fnD F sc_Record___len__ (body := b_Record___len__) rfl rfl fun cdv A outer s H E hr => ?_, bd⟩, F.kp⟩
  have tk := L2N.takes_of (X := cxOf (L2N.CX P w) P w K mg base n_Record___len__ "Record.__len__" (defScope s_Record___len__) (ad 2) cdv A outer s H E) (E := E) rfl rfl rfl rfl
  have tw := tw_of tk
  exact (ds_one (ds_ret (de_callB call_len (ok_len rfl) T.b_len PySem.boot_len (da_cons (de_fld (dv 0) rfl T.k_Record T.na_Record_steps rfl) da_nil))))
theorem ok_Record_floods (T : Tx P w K mg ad cl) : GFnY P w K mg base 3 (ad 3) (spZd (Zz w K cl) b_Record_floods 5 1) := by
  obtain ⟨fd, F, _⟩ := T.f_Record_floods
  exact dgfnY F sc_Record_floods (fun _ => rfl) rfl rfl (fun _ _ _ _ _ _ us h => match us, h with | [_], _ => rfl) fun c0 cdv B outer s H E pn hr => (dzs_cons (dz_plain (ds_set (i := 1) sc_Record_floods.nd de_int)) (dzs_cons (dz_plain (ds_set (i := 2) sc_Record_floods.nd de_int)) (dzs_cons (dz_for owns_gcx (di_list rfl (de_callD (ok_runs (P := P) (w := w) (base := base) T) (hr.mono (by decide)) T.g_runs tw_none (da_cons (de_fld (dv 0) rfl T.k_Record T.na_Record_steps rfl) da_nil))) (dg_tup rfl rfl (dgs_cons (dg_name (i := 3) sc_Record_floods.nd) (dgs_cons (dg_name (i := 4) sc_Record_floods.nd) dgs_nil))) (dzs_cons (dz_if (dt_cmp (c_eq rfl hr) (dv 3) de_str) (dzs_cons (dz_yield (de_tup (da_cons de_str (da_cons (dv 1) (da_cons (dv 2) (da_cons (de_add (dv 2) (dv 4)) da_nil)))))) dzs_nil gr_nil) dzs_nil) (dzs_cons (dz_if (dt_cmp (c_eq rfl hr) (dv 3) de_str) (dzs_cons (dz_yield (de_tup (da_cons de_str (da_cons (dv 2) (da_cons (dv 1) (da_cons (de_add (dv 1) (dv 4)) da_nil)))))) dzs_nil gr_nil) dzs_nil) (dzs_cons (dz_plain (ds_if (dt_cmp (c_ne rfl hr) (dv 3) de_str) (ds_one (ds_aug (i := 1) sc_Record_floods.nd (dv 4) ip_addA ok_addI)) ds_nil)) (dzs_cons (dz_plain (ds_if (dt_cmp (c_ne rfl hr) (dv 3) de_str) (ds_one (ds_aug (i := 2) sc_Record_floods.nd (dv 4) ip_addA ok_addI)) ds_nil)) dzs_nil gr_nil) (gr_seq (gr_pl _) gr_nil)) (gr_seq (gr_pl _) (gr_seq (gr_pl _) gr_nil))) (gr_seq (gr_if (gr_seq (gr_yld _ _) gr_nil) gr_nil) (gr_seq (gr_pl _) (gr_seq (gr_pl _) gr_nil)))) (gr_seq (gr_if (gr_seq (gr_yld _ _) gr_nil) gr_nil) (gr_seq (gr_if (gr_seq (gr_yld _ _) gr_nil) gr_nil) (gr_seq (gr_pl _) (gr_seq (gr_pl _) gr_nil))))) dzs_nil gr_nil) (gr_seq (gr_for (gr_seq (gr_if (gr_seq (gr_yld _ _) gr_nil) gr_nil) (gr_seq (gr_if (gr_seq (gr_yld _ _) gr_nil) gr_nil) (gr_seq (gr_pl _) (gr_seq (gr_pl _) gr_nil))))) gr_nil)) (gr_seq (gr_pl _) (gr_seq (gr_for (gr_seq (gr_if (gr_seq (gr_yld _ _) gr_nil) gr_nil) (gr_seq (gr_if (gr_seq (gr_yld _ _) gr_nil) gr_nil) (gr_seq (gr_pl _) (gr_seq (gr_pl _) gr_nil))))) gr_nil)))
theorem ok_Record___neg__ (T : Tx P w K mg ad cl) : DOk P w K mg base 5 (ad 4) ["self"] (spD (Zz w K cl) f_Record___neg__ 1) := by
  obtain ⟨fd, F, bd⟩ := T.f_Record___neg__
  refine ⟨⟨fd, fnD F sc_Record___neg__ (body := b_Record___neg__) rfl rfl fun cdv A outer s H E hr => ?_, bd⟩, F.kp⟩
  have tk := L2N.takes_of (X := cxOf (L2N.CX P w) P w K mg base n_Record___neg__ "Record.__neg__" (defScope s_Record___neg__) (ad 4) cdv A outer s H E) (E := E) rfl rfl rfl rfl
  have tw := tw_of tk
  exact (ds_one (ds_ret (de_makeD T.mk_Record (ok_Record___init__ (P := P) (w := w) (base := base) T) (hr.mono (by decide)) T.g_Record tw (da_cons (de_join rfl de_str (de_settle (de_lcC (own := [("sign", 1)]) rfl sc_Record___neg__.nd (blkOk_by (own := [("sign", 1)]) (N := n_Record___neg__) (sc := defScope s_Record___neg__) (by decide +kernel)) (by decide) (di_str (de_fld (dv 0) rfl T.k_Record T.na_Record_steps rfl)) (fun _ _ _ _ _ => (dg_name (i := 1) sc_Record___neg__.nd)) (fun _ _ _ _ _ => dts_nil) (fun _ _ _ _ _ => (de_itK T.d_SWAPPED (dv 1)))))) da_nil) rfl)))
theorem ok__law_mix (T : Tx P w K mg ad cl) : DOk P w K mg base 1 (ad 5) ["_law_cell", "_law_turn"] (spD (Zz w K cl) f__law_mix 2) := by
  obtain ⟨fd, F, bd⟩ := T.f__law_mix
  refine ⟨⟨fd, fnD F sc__law_mix (body := b__law_mix) rfl rfl fun cdv A outer s H E hr => ?_, bd⟩, F.kp⟩
  have tk := L2N.takes_of (X := cxOf (L2N.CX P w) P w K mg base n__law_mix "_law_mix" (defScope s__law_mix) (ad 5) cdv A outer s H E) (E := E) rfl rfl rfl rfl
  have tw := tw_of tk
  exact (ds_cons (ds_set (i := 2) sc__law_mix.nd (de_mod (de_callTy call_int1 ok_int1 T.b_int (by decide +kernel) (da_cons (de_add (de_mul (de_mul (dv 0) de_int) (de_add (dv 1) de_int)) (de_mul de_int (dv 1))) da_nil)) de_int)) (ds_one (ds_ret (de_add (dv 2) (de_div (de_mul (dv 2) (dv 2)) de_int)))))
theorem ok__law_pool (T : Tx P w K mg ad cl) : DOk P w K mg base 2 (ad 6) ["_law_script", "_law_many"] (spD (Zz w K cl) f__law_pool 2) := by
  obtain ⟨fd, F, bd⟩ := T.f__law_pool
  refine ⟨⟨fd, fnD F sc__law_pool (body := b__law_pool) rfl rfl fun cdv A outer s H E hr => ?_, bd⟩, F.kp⟩
  have tk := L2N.takes_of (X := cxOf (L2N.CX P w) P w K mg base n__law_pool "_law_pool" (defScope s__law_pool) (ad 6) cdv A outer s H E) (E := E) rfl rfl rfl rfl
  have tw := tw_of tk
  exact (ds_cons (ds_set (i := 2) sc__law_pool.nd (de_lstC da_nil)) (ds_cons (ds_set (i := 3) sc__law_pool.nd de_int) (ds_cons (ds_for (passes_of rfl) (di_range1 T.b_range (da_cons (de_callB (call_min2 rfl) ok_min T.b_min (by decide +kernel) (da_cons (de_callB call_len (ok_len rfl) T.b_len PySem.boot_len (da_cons (dv 0) da_nil)) (da_cons de_int da_nil))) da_nil)) (dg_name (i := 4) sc__law_pool.nd) (ds_cons (ds_set (i := 3) sc__law_pool.nd (de_mod (de_callTy call_int1 ok_int1 T.b_int (by decide +kernel) (da_cons (de_add (dv 3) (de_mul (de_ix rfl (dv 0) (dv 4)) (de_add (dv 4) de_int))) da_nil)) de_int)) (ds_cons (ds_set (i := 5) sc__law_pool.nd (de_callB call_abs ok_abs T.b_abs (by decide +kernel) (da_cons (de_ix rfl (dv 0) (dv 4)) da_nil))) (ds_cons (ds_set (i := 6) sc__law_pool.nd (de_cmpK c_ge (dv 5) (de_pow de_int de_int))) (ds_one (ds_for (passes_of rfl) (di_range1 T.b_range (da_cons de_int da_nil)) (dg_name (i := 7) sc__law_pool.nd) (ds_one (ds_if (PW.pt (dw_and (dt_tru rfl (dv 6)) (dw_and1 (dt_cmp c_gt (dv 5) de_int)))) (ds_cons (ds_expr (de_append rfl (dv 2) (de_mod (de_callTy call_int1 ok_int1 T.b_int (by decide +kernel) (da_cons (dv 5) da_nil)) de_int))) (ds_one (ds_set (i := 5) sc__law_pool.nd (de_div (dv 5) de_int)))) (ds_one (ds_if (PW.pt (dw_and (dt_not (dt_tru rfl (dv 6))) (dw_and1 (dt_cmp c_lt (dv 7) de_int)))) (ds_one (ds_expr (de_append rfl (dv 2) (de_callD (ok__law_mix (P := P) (w := w) (base := base) T) (hr.mono (by decide)) T.g__law_mix tw (da_cons (de_ix rfl (dv 0) (dv 4)) (da_cons (dv 7) da_nil)))))) ds_nil)))))))))) (ds_cons (ds_for (passes_of rfl) (di_range1 T.b_range (da_cons (dv 1) da_nil)) (dg_name (i := 7) sc__law_pool.nd) (ds_one (ds_if (dt_cmp c_lt (de_callB call_len (ok_len rfl) T.b_len PySem.boot_len (da_cons (dv 2) da_nil)) (dv 1)) (ds_one (ds_expr (de_append rfl (dv 2) (de_callD (ok__law_mix (P := P) (w := w) (base := base) T) (hr.mono (by decide)) T.g__law_mix tw (da_cons (dv 3) (da_cons (de_callB call_len (ok_len rfl) T.b_len PySem.boot_len (da_cons (dv 2) da_nil)) da_nil)))))) ds_nil))) (ds_one (ds_ret (dv 2)))))))
theorem ok__law_draw (T : Tx P w K mg ad cl) : DOk P w K mg base 2 (ad 7) ["_law_pool_here", "_law_bound"] (spD (Zz w K cl) f__law_draw 2) := by
  obtain ⟨fd, F, bd⟩ := T.f__law_draw
  refine ⟨⟨fd, fnD F sc__law_draw (body := b__law_draw) rfl rfl fun cdv A outer s H E hr => ?_, bd⟩, F.kp⟩
  have tk := L2N.takes_of (X := cxOf (L2N.CX P w) P w K mg base n__law_draw "_law_draw" (defScope s__law_draw) (ad 7) cdv A outer s H E) (E := E) rfl rfl rfl rfl
  have tw := tw_of tk
  exact (ds_cons (ds_if (dt_cmp (c_eq rfl hr) (de_callB call_len (ok_len rfl) T.b_len PySem.boot_len (da_cons (dv 0) da_nil)) de_int) (ds_one (ds_ret de_int)) ds_nil) (ds_one (ds_ret (de_mod (de_callTy call_int1 ok_int1 T.b_int (by decide +kernel) (da_cons (de_popAt rfl (dv 0) de_int) da_nil)) (dv 1)))))
theorem ok__law_path (T : Tx P w K mg ad cl) : DOk P w K mg base 3 (ad 8) ["_law_pool_here", "_law_lefts", "_law_rights"] (spD (Zz w K cl) f__law_path 3) := by
  obtain ⟨fd, F, bd⟩ := T.f__law_path
  refine ⟨⟨fd, fnD F sc__law_path (body := b__law_path) rfl rfl fun cdv A outer s H E hr => ?_, bd⟩, F.kp⟩
  have tk := L2N.takes_of (X := cxOf (L2N.CX P w) P w K mg base n__law_path "_law_path" (defScope s__law_path) (ad 8) cdv A outer s H E) (E := E) rfl rfl rfl rfl
  have tw := tw_of tk
  exact (ds_cons (ds_set (i := 3) sc__law_path.nd de_str) (ds_cons (ds_set (i := 4) sc__law_path.nd de_int) (ds_cons (ds_set (i := 5) sc__law_path.nd de_int) (ds_cons (ds_for (passes_of rfl) (di_range1 T.b_range (da_cons (de_add (dv 1) (dv 2)) da_nil)) (dg_name (i := 6) sc__law_path.nd) (ds_cons (ds_set (i := 7) sc__law_path.nd (de_ix rfl de_str (de_callD (ok__law_draw (P := P) (w := w) (base := base) T) (hr.mono (by decide)) T.g__law_draw tw (da_cons (dv 0) (da_cons de_int da_nil))))) (ds_cons (ds_if (dt_cmp (c_eq rfl hr) (dv 4) (dv 1)) (ds_one (ds_set (i := 7) sc__law_path.nd de_str)) ds_nil) (ds_cons (ds_if (dt_cmp (c_eq rfl hr) (dv 5) (dv 2)) (ds_one (ds_set (i := 7) sc__law_path.nd de_str)) ds_nil) (ds_one (ds_if (PW.pt (dw_or (dt_cmp c_lt (dv 4) (dv 1)) (dw_or1 (dt_cmp c_lt (dv 5) (dv 2))))) (ds_cons (ds_set (i := 3) sc__law_path.nd (de_add (dv 3) (dv 7))) (ds_cons (ds_set (i := 4) sc__law_path.nd (de_add (dv 4) (de_callTy call_int1 ok_int1 T.b_int (by decide +kernel) (da_cons (de_cmpK (c_ne rfl hr) (dv 7) de_str) da_nil)))) (ds_one (ds_set (i := 5) sc__law_path.nd (de_add (dv 5) (de_callTy call_int1 ok_int1 T.b_int (by decide +kernel) (da_cons (de_cmpK (c_ne rfl hr) (dv 7) de_str) da_nil))))))) ds_nil)))))) (ds_one (ds_ret (dv 3)))))))
theorem ok__law_whole (T : Tx P w K mg ad cl) : DOk P w K mg base 1 (ad 9) ["_law_number"] (spD (Zz w K cl) f__law_whole 1) := by
  obtain ⟨fd, F, bd⟩ := T.f__law_whole
  refine ⟨⟨fd, fnD F sc__law_whole (body := b__law_whole) rfl rfl fun cdv A outer s H E hr => ?_, bd⟩, F.kp⟩
  have tk := L2N.takes_of (X := cxOf (L2N.CX P w) P w K mg base n__law_whole "_law_whole" (defScope s__law_whole) (ad 9) cdv A outer s H E) (E := E) rfl rfl rfl rfl
  have tw := tw_of tk
  exact (ds_one (ds_ret (de_and (de_isi (pe_bltn (v := .ty "int") (u := .type "int") rfl T.b_int (by decide +kernel) rfl) (.ty _) rfl T.ik_int T.ic_int (dv 0) T.b_isinstance) (de_one (de_not (de_isi (pe_bltn (v := .ty "bool") (u := .type "bool") rfl T.b_bool (by decide +kernel) rfl) (.ty _) rfl T.ik_bool T.ic_bool (dv 0) T.b_isinstance))))))
theorem ok__law_runs (T : Tx P w K mg ad cl) : DOk P w K mg base 3 (ad 10) ["_law_pool_here", "_law_lefts", "_law_rights"] (spD (Zz w K cl) f__law_runs 3) := by
  obtain ⟨fd, F, bd⟩ := T.f__law_runs
  refine ⟨⟨fd, fnD F sc__law_runs (body := b__law_runs) rfl rfl fun cdv A outer s H E hr => ?_, bd⟩, F.kp⟩
  have tk := L2N.takes_of (X := cxOf (L2N.CX P w) P w K mg base n__law_runs "_law_runs" (defScope s__law_runs) (ad 10) cdv A outer s H E) (E := E) rfl rfl rfl rfl
  have tw := tw_of tk
  exact (ds_cons (ds_set (i := 3) sc__law_runs.nd de_str) (ds_cons (ds_set (i := 4) sc__law_runs.nd (dv 1)) (ds_cons (ds_set (i := 5) sc__law_runs.nd (dv 2)) (ds_cons (ds_for (passes_of rfl) (di_range1 T.b_range (da_cons de_int da_nil)) (dg_name (i := 6) sc__law_runs.nd) (ds_cons (ds_set (i := 7) sc__law_runs.nd (de_ix rfl de_str (de_callD (ok__law_draw (P := P) (w := w) (base := base) T) (hr.mono (by decide)) T.g__law_draw tw (da_cons (dv 0) (da_cons de_int da_nil))))) (ds_cons (ds_set (i := 8) sc__law_runs.nd (de_add de_int (de_callD (ok__law_draw (P := P) (w := w) (base := base) T) (hr.mono (by decide)) T.g__law_draw tw (da_cons (dv 0) (da_cons de_int da_nil))))) (ds_cons (ds_if (dt_cmp (c_ne rfl hr) (dv 7) de_str) (ds_one (ds_set (i := 8) sc__law_runs.nd (de_callB (call_min2 rfl) ok_min T.b_min (by decide +kernel) (da_cons (de_callTy call_int1 ok_int1 T.b_int (by decide +kernel) (da_cons (dv 8) da_nil)) (da_cons (de_callTy call_int1 ok_int1 T.b_int (by decide +kernel) (da_cons (dv 4) da_nil)) da_nil))))) ds_nil) (ds_cons (ds_if (dt_cmp (c_ne rfl hr) (dv 7) de_str) (ds_one (ds_set (i := 8) sc__law_runs.nd (de_callB (call_min2 rfl) ok_min T.b_min (by decide +kernel) (da_cons (de_callTy call_int1 ok_int1 T.b_int (by decide +kernel) (da_cons (dv 8) da_nil)) (da_cons (de_callTy call_int1 ok_int1 T.b_int (by decide +kernel) (da_cons (dv 5) da_nil)) da_nil))))) ds_nil) (ds_cons (ds_set (i := 3) sc__law_runs.nd (de_add (dv 3) (de_repS (dv 7) (dv 8)))) (ds_cons (ds_set (i := 4) sc__law_runs.nd (de_sub (dv 4) (de_mul (dv 8) (de_callTy call_int1 ok_int1 T.b_int (by decide +kernel) (da_cons (de_cmpK (c_ne rfl hr) (dv 7) de_str) da_nil))))) (ds_one (ds_set (i := 5) sc__law_runs.nd (de_sub (dv 5) (de_mul (dv 8) (de_callTy call_int1 ok_int1 T.b_int (by decide +kernel) (da_cons (de_cmpK (c_ne rfl hr) (dv 7) de_str) da_nil))))))))))))) (ds_one (ds_ret (dv 3)))))))
theorem ok__law_due (T : Tx P w K mg ad cl) : DOk P w K mg base 2 (ad 11) ["_law_steps"] (spD (Zz w K cl) f__law_due 1) := by
  obtain ⟨fd, F, bd⟩ := T.f__law_due
  refine ⟨⟨fd, fnD F sc__law_due (body := b__law_due) rfl rfl fun cdv A outer s H E hr => ?_, bd⟩, F.kp⟩
  have tk := L2N.takes_of (X := cxOf (L2N.CX P w) P w K mg base n__law_due "_law_due" (defScope s__law_due) (ad 11) cdv A outer s H E) (E := E) rfl rfl rfl rfl
  have tw := tw_of tk
  exact (ds_cons (ds_set (i := 1) sc__law_due.nd de_lstR) (ds_cons (ds_set (i := 2) sc__law_due.nd de_int) (ds_cons (ds_set (i := 3) sc__law_due.nd de_int) (ds_cons (ds_for (passes_of rfl) (di_range1 T.b_range (da_cons (de_callB call_len (ok_len rfl) T.b_len PySem.boot_len (da_cons (dv 0) da_nil)) da_nil)) (dg_name (i := 4) sc__law_due.nd) (ds_cons (ds_set (i := 5) sc__law_due.nd (de_ix rfl (dv 0) (dv 4))) (ds_cons (ds_set (i := 6) sc__law_due.nd (de_or (de_cmpK (c_eq rfl hr) (dv 4) de_int) (de_one (de_cmpK (c_ne rfl hr) (de_ix rfl (dv 0) (de_sub (dv 4) de_int)) (dv 5))))) (ds_cons (ds_if (PW.pt (dw_and (dt_cmp (c_eq rfl hr) (dv 5) de_str) (dw_and1 (dt_tru rfl (dv 6))))) (ds_one (ds_expr (de_appR rfl (dv 1) (da_cons de_str (da_cons (dv 2) (da_cons (dv 3) (da_cons (dv 3) da_nil))))))) ds_nil) (ds_cons (ds_if (PW.pt (dw_and (dt_cmp (c_eq rfl hr) (dv 5) de_str) (dw_and1 (dt_tru rfl (dv 6))))) (ds_one (ds_expr (de_appR rfl (dv 1) (da_cons de_str (da_cons (dv 3) (da_cons (dv 2) (da_cons (dv 2) da_nil))))))) ds_nil) (ds_cons (ds_if (dt_cmp (c_ne rfl hr) (dv 5) de_str) (ds_one (ds_setRow rfl (dv 1) (de_neg de_int) (de_add (de_ixR rfl (dv 1) (de_neg de_int)) de_int))) ds_nil) (ds_cons (ds_set (i := 2) sc__law_due.nd (de_add (dv 2) (de_callTy call_int1 ok_int1 T.b_int (by decide +kernel) (da_cons (de_cmpK (c_ne rfl hr) (dv 5) de_str) da_nil)))) (ds_one (ds_set (i := 3) sc__law_due.nd (de_add (dv 3) (de_callTy call_int1 ok_int1 T.b_int (by decide +kernel) (da_cons (de_cmpK (c_ne rfl hr) (dv 5) de_str) da_nil)))))))))))) (ds_one (ds_frzR (ds_ret (de_settle (de_lcC (own := [("_law_row", 7)]) rfl sc__law_due.nd (blkOk_by (own := [("_law_row", 7)]) (N := n__law_due) (sc := defScope s__law_due) (by decide +kernel)) (by decide) (di_list rfl (dv 1)) (fun _ _ _ _ _ => (dg_name (i := 7) sc__law_due.nd)) (fun _ _ _ _ _ => dts_nil) (fun _ _ _ _ _ => (de_tup (da_cons (de_ix rfl (dv 7) de_int) (da_cons (de_ix rfl (dv 7) de_int) (da_cons (de_ix rfl (dv 7) de_int) (da_cons (de_ix rfl (dv 7) de_int) da_nil)))))))))))))))
theorem ok__law_right (T : Tx P w K mg ad cl) : DOk P w K mg base 6 (ad 12) ["_law_record", "_law_due_here"] (spD (Zz w K cl) f__law_right 2) := by
  obtain ⟨fd, F, bd⟩ := T.f__law_right
  refine ⟨⟨fd, fnD F sc__law_right (body := b__law_right) rfl rfl fun cdv A outer s H E hr => ?_, bd⟩, F.kp⟩
  have tk := L2N.takes_of (X := cxOf (L2N.CX P w) P w K mg base n__law_right "_law_right" (defScope s__law_right) (ad 12) cdv A outer s H E) (E := E) rfl rfl rfl rfl
  have tw := tw_of tk
  exact (ds_cons (ds_setLcIM (j := 2) (own := [("_law_flood", 3)]) (dv 0) T.k_Record T.m_Record_floods (show ("floods" : Str) ∉ flds 1 by decide +kernel) (ok_Record_floods (P := P) (w := w) (base := base) T) (hr.mono (by decide)) sc__law_right.nd (blkOk_by (own := [("_law_flood", 3)]) (N := n__law_right) (sc := defScope s__law_right) (by decide +kernel)) rfl (fun _ _ _ _ _ => pg_name sc__law_right.nd rfl (by first | exact Or.inl rfl | exact Or.inr rfl)) (fun _ _ _ _ _ => pe_var rfl (by first | exact Or.inl rfl | exact Or.inr (Or.inl rfl) | exact Or.inr (Or.inr rfl)))) (ds_cons (ds_for (passes_of rfl) (di_list rfl (dv 2)) (dg_name (i := 3) sc__law_right.nd) (ds_cons (ds_if (PW.pt (dw_or (dt_not (dt_val (de_isi (pe_bltn (v := .ty "tuple") (u := .type "tuple") rfl T.b_tuple (by decide +kernel) rfl) (.ty _) rfl T.ik_tuple T.ic_tuple (dv 3) T.b_isinstance))) (dw_or (dt_cmp (c_ne rfl hr) (de_callB call_len (ok_len rfl) T.b_len PySem.boot_len (da_cons (dv 3) da_nil)) de_int) (dw_or1 (dt_not (dt_val (de_isi (pe_bltn (v := .ty "str") (u := .type "str") rfl T.b_str (by decide +kernel) rfl) (.ty _) rfl T.ik_str T.ic_str (de_ix rfl (dv 3) de_int) T.b_isinstance))))))) (ds_one (ds_ret de_bl)) ds_nil) (ds_one (ds_if (PW.pt (dw_or (dt_not (dt_val (de_callD (ok__law_whole (P := P) (w := w) (base := base) T) (hr.mono (by decide)) T.g__law_whole tw (da_cons (de_ix rfl (dv 3) de_int) da_nil)))) (dw_or (dt_not (dt_val (de_callD (ok__law_whole (P := P) (w := w) (base := base) T) (hr.mono (by decide)) T.g__law_whole tw (da_cons (de_ix rfl (dv 3) de_int) da_nil)))) (dw_or1 (dt_not (dt_val (de_callD (ok__law_whole (P := P) (w := w) (base := base) T) (hr.mono (by decide)) T.g__law_whole tw (da_cons (de_ix rfl (dv 3) de_int) da_nil)))))))) (ds_one (ds_ret de_bl)) ds_nil)))) (ds_one (ds_ret (de_cmpK (c_eq rfl hr) (dv 2) (dv 1))))))
theorem ok__law_rows (T : Tx P w K mg ad cl) : DOk P w K mg base 2 (ad 13) ["_law_steps"] (spD (Zz w K cl) f__law_rows 1) := by
  obtain ⟨fd, F, bd⟩ := T.f__law_rows
  refine ⟨⟨fd, fnD F sc__law_rows (body := b__law_rows) rfl rfl fun cdv A outer s H E hr => ?_, bd⟩, F.kp⟩
  have tk := L2N.takes_of (X := cxOf (L2N.CX P w) P w K mg base n__law_rows "_law_rows" (defScope s__law_rows) (ad 13) cdv A outer s H E) (E := E) rfl rfl rfl rfl
  have tw := tw_of tk
  exact (ds_cons (ds_set (i := 1) sc__law_rows.nd (de_lstC da_nil)) (ds_cons (ds_set (i := 2) sc__law_rows.nd de_int) (ds_cons (ds_set (i := 3) sc__law_rows.nd de_int) (ds_cons (ds_for (passes_of rfl) (di_str (dv 0)) (dg_name (i := 4) sc__law_rows.nd) (ds_cons (ds_if (dt_cmp (c_eq rfl hr) (dv 4) de_str) (ds_one (ds_expr (de_append rfl (dv 1) (de_tup (da_cons (dv 2) (da_cons de_non da_nil)))))) ds_nil) (ds_cons (ds_if (dt_cmp (c_eq rfl hr) (dv 4) de_str) (ds_one (ds_expr (de_append rfl (dv 1) (de_tup (da_cons (dv 2) (da_cons (dv 3) da_nil)))))) ds_nil) (ds_cons (ds_if (dt_cmp (c_eq rfl hr) (dv 4) de_str) (ds_one (ds_expr (de_append rfl (dv 1) (de_tup (da_cons de_non (da_cons (dv 3) da_nil)))))) ds_nil) (ds_cons (ds_set (i := 2) sc__law_rows.nd (de_add (dv 2) (de_callTy call_int1 ok_int1 T.b_int (by decide +kernel) (da_cons (de_cmpK (c_ne rfl hr) (dv 4) de_str) da_nil)))) (ds_one (ds_set (i := 3) sc__law_rows.nd (de_add (dv 3) (de_callTy call_int1 ok_int1 T.b_int (by decide +kernel) (da_cons (de_cmpK (c_ne rfl hr) (dv 4) de_str) da_nil)))))))))) (ds_one (ds_frz (ds_ret (dv 1))))))))
theorem ok__law_other (T : Tx P w K mg ad cl) : DOk P w K mg base 2 (ad 14) ["_law_flood"] (spD (Zz w K cl) f__law_other 1) := by
  obtain ⟨fd, F, bd⟩ := T.f__law_other
  refine ⟨⟨fd, fnD F sc__law_other (body := b__law_other) rfl rfl fun cdv A outer s H E hr => ?_, bd⟩, F.kp⟩
  have tk := L2N.takes_of (X := cxOf (L2N.CX P w) P w K mg base n__law_other "_law_other" (defScope s__law_other) (ad 14) cdv A outer s H E) (E := E) rfl rfl rfl rfl
  have tw := tw_of tk
  exact (ds_cons (ds_if (dt_cmp (c_eq rfl hr) (de_ix rfl (dv 0) de_int) de_str) (ds_one (ds_ret (de_tup (da_cons de_str (da_cons (de_ix rfl (dv 0) de_int) (da_cons (de_ix rfl (dv 0) de_int) (da_cons (de_ix rfl (dv 0) de_int) da_nil))))))) ds_nil) (ds_one (ds_ret (de_tup (da_cons de_str (da_cons (de_ix rfl (dv 0) de_int) (da_cons (de_ix rfl (dv 0) de_int) (da_cons (de_ix rfl (dv 0) de_int) da_nil))))))))
theorem okF_law (T : Tx P w K mg ad cl) {fa : Addr} {fd : FuncData} (F : Fun K "law" "law" s_law fa fd) : FnOk P w K mg base (L2N.CX P w) 7 fa fd ["_law_script"] (spD (Zz w K cl) f_law 1) := by
  refine fnD F sc_law (body := b_law) rfl rfl fun cdv A outer s H E hr => ?_
  have tk := L2N.takes_of (X := cxOf (L2N.CX P w) P w K mg base n_law "law" (defScope s_law) fa cdv A outer s H E) (E := E) rfl rfl rfl rfl
  have tw := tw_of tk
  exact (ds_cons (ds_set (i := 1) sc_law.nd (de_callD (ok__law_pool (P := P) (w := w) (base := base) T) (hr.mono (by decide)) T.g__law_pool tw (da_cons (dv 0) (da_cons de_int da_nil)))) (ds_cons (ds_set (i := 2) sc_law.nd (de_ix rfl (de_lst (da_cons de_int (da_cons de_int da_nil))) (de_callD (ok__law_draw (P := P) (w := w) (base := base) T) (hr.mono (by decide)) T.g__law_draw tw (da_cons (dv 1) (da_cons de_int da_nil))))) (ds_cons (ds_set (i := 3) sc_law.nd (de_callD (ok__law_draw (P := P) (w := w) (base := base) T) (hr.mono (by decide)) T.g__law_draw tw (da_cons (dv 1) (da_cons (dv 2) da_nil)))) (ds_cons (ds_set (i := 4) sc_law.nd (de_callD (ok__law_draw (P := P) (w := w) (base := base) T) (hr.mono (by decide)) T.g__law_draw tw (da_cons (dv 1) (da_cons (dv 2) da_nil)))) (ds_cons (ds_if (dt_cmp (c_eq rfl hr) (de_callD (ok__law_draw (P := P) (w := w) (base := base) T) (hr.mono (by decide)) T.g__law_draw tw (da_cons (dv 1) (da_cons de_int da_nil))) de_int) (ds_one (ds_set (i := 5) sc_law.nd (de_callD (ok__law_path (P := P) (w := w) (base := base) T) (hr.mono (by decide)) T.g__law_path tw (da_cons (dv 1) (da_cons (dv 3) (da_cons (dv 4) da_nil)))))) (ds_one (ds_set (i := 5) sc_law.nd (de_callD (ok__law_runs (P := P) (w := w) (base := base) T) (hr.mono (by decide)) T.g__law_runs tw (da_cons (dv 1) (da_cons (dv 3) (da_cons (dv 4) da_nil))))))) (ds_cons (ds_set (i := 6) sc_law.nd (de_makeD T.mk_Record (ok_Record___init__ (P := P) (w := w) (base := base) T) (hr.mono (by decide)) T.g_Record tw (da_cons (dv 5) da_nil) rfl)) (ds_cons (ds_set (i := 7) sc_law.nd (de_callD (ok__law_due (P := P) (w := w) (base := base) T) (hr.mono (by decide)) T.g__law_due tw (da_cons (dv 5) da_nil))) (ds_cons (ds_if (PW.pt (dw_or (dt_not (dt_val (de_callD (ok__law_right (P := P) (w := w) (base := base) T) (hr.mono (by decide)) T.g__law_right tw (da_cons (dv 6) (da_cons (dv 7) da_nil))))) (dw_or1 (dt_not (dt_val (de_callD (ok__law_right (P := P) (w := w) (base := base) T) (hr.mono (by decide)) T.g__law_right tw (da_cons (de_ownNeg T.o1_Record___neg__ (ok_Record___neg__ (P := P) (w := w) (base := base) T) (hr.mono (by decide)) tw (dv 6)) (da_cons (de_settle (de_lcC (own := [("_law_flood", 8)]) rfl sc_law.nd (blkOk_by (own := [("_law_flood", 8)]) (N := n_law) (sc := defScope s_law) (by decide +kernel)) (by decide) (di_list rfl (dv 7)) (fun _ _ _ _ _ => (dg_name (i := 8) sc_law.nd)) (fun _ _ _ _ _ => dts_nil) (fun _ _ _ _ _ => (de_callD (ok__law_other (P := P) (w := w) (base := base) T) (hr.mono (by decide)) T.g__law_other tw_none (da_cons (dv 8) da_nil))))) da_nil)))))))) (ds_one (ds_ret de_bl)) ds_nil) (ds_cons (ds_if (PW.pt (dw_or (dt_not (dt_val (de_callD (ok__law_right (P := P) (w := w) (base := base) T) (hr.mono (by decide)) T.g__law_right tw (da_cons (dv 6) (da_cons (dv 7) da_nil))))) (dw_or1 (dt_cmp (c_ne rfl hr) (de_fld (dv 6) rfl T.k_Record T.na_Record_steps rfl) (dv 5))))) (ds_one (ds_ret de_bl)) ds_nil) (ds_one (ds_ret (de_and (de_cmpK (c_eq rfl hr) (de_settle (de_lcC (own := [("_law_row", 9)]) rfl sc_law.nd (blkOk_by (own := [("_law_row", 9)]) (N := n_law) (sc := defScope s_law) (by decide +kernel)) (by decide) (di_own rfl (dv 6) T.k_Record T.na_Record_rows rfl (it_Record (P := P) (w := w) (base := base) T) (hr.mono (by decide))) (fun _ _ _ _ _ => (dg_name (i := 9) sc_law.nd)) (fun _ _ _ _ _ => dts_nil) (fun _ _ _ _ _ => (dv 9)))) (de_callD (ok__law_rows (P := P) (w := w) (base := base) T) (hr.mono (by decide)) T.g__law_rows tw (da_cons (dv 5) da_nil))) (de_one (de_cmpK (c_eq rfl hr) (de_lenO (dv 6) T.o1_Record___len__.hs T.o1_Record___len__.fn (ok_Record___len__ (P := P) (w := w) (base := base) T) (hr.mono (by decide)) rfl T.b_len) (de_callB call_len (ok_len rfl) T.b_len PySem.boot_len (da_cons (dv 5) da_nil))))))))))))))))
end
end ZZ
set_option Elab.async false
set_option linter.all false
set_option maxRecDepth 100000
set_option maxHeartbeats 4000000
open Lean Parser Tactic in
local macro_rules
  | `(tactic| simp? only [$xs,*] $[$l]?) => do
    let es := xs.getElems.filter fun x => x.raw.getKind == ``simpErase
    let ks := (#[`mkD, `List.map_cons, `List.map_nil, `List.length_cons, `List.length_nil, `Nat.reduceAdd, `Nat.reduceSub, `List.replicate_succ, `List.replicate_zero, `List.cons_append, `List.nil_append, `sSeq, `sSet, `sRet, `sExp, `sDrop, `sIf, `sNil, `sFor, `eBin, `eUn, `eBind, `eV, `eC, `eArgs, `eAnd, `eOr, `eNot, `eIf, `eMth, `eTru, `kBool, `List.getElem?_cons_zero, `List.getElem?_cons_succ, `List.set_cons_zero, `List.set_cons_succ, `if_true, `if_false, `ite_true, `ite_false, `Bool.false_eq_true, `eq_self_iff_true, `reduceIte, `ims, `Option.map_some, `kTup, `kLst, `kLstC, `kCall, `List.all_cons, `List.all_nil, `plainV, `Bool.and_true, `Bool.true_and, `iExp, `iArgs, `itS, `itL, `itT, `itLT, `gN, `gT, `gL, `Option.bind_some, `frz, `ce_get, `ce_get0, `ce_set, `ce_set0, `ce_take, `asL, `asSq, `asIm, `truV, `kTru, `kAdd, `kSub, `kMod, `kLen, `kInt, `kMin, `kMax, `kCmp, `kIsB, `tyL, `tyS, `Option.isSome_some, `Bool.and_self, `beq_self_eq_true, `Option.isSome, `Bool.or_true, `Bool.true_or, `Bool.not_true, `Bool.not_false, `Bool.false_and, `Bool.and_false, `Bool.or_false, `Bool.false_or, `List.cons.injEq, `reduceCtorEq, `false_and, `and_false, `and_self, `and_true, `true_and, `decide_true, `decide_false, `Nat.reduceLeDiff, `LINE] : Array Name).filter fun n => !es.any fun e => e.raw[1].getId == n
    let ls ← ks.mapM fun n => `(simpLemma| $(mkIdent n):ident)
    let ys := (ls.map fun l => l.raw) ++ (xs.getElems.filter fun x => x.raw.getKind != ``simpErase).map fun x => x.raw
    let zs : Syntax.TSepArray [``simpStar, ``simpErase, ``simpLemma] "," := ⟨(mkNullNode (Syntax.mkSep ys (mkAtom ",")).getArgs).getArgs⟩
    `(tactic| simp only [$zs,*] $[$l]?)
namespace ZZ
open PySem PySem.Spec L2
def rowsD : Nat → Nat → List Sg → List D
  | _, _, [] => []
  | l, r, .l :: s => .tup [.int l, .non] :: rowsD (l + 1) r s
  | l, r, .e :: s => .tup [.int l, .int r] :: rowsD (l + 1) (r + 1) s
  | l, r, .g :: s => .tup [.non, .int r] :: rowsD l (r + 1) s
def recD (s : List Sg) : D := .ins c_Record [.str (txt s), .lst (rowsD 0 0 s)]
theorem in_swap (c : Sg) : (d_SWAPPED.lookup (txt [c])).isSome = true := by cases c <;> decide +kernel
theorem inK_swap (c : Sg) {sl : Sl} {ce : List Cell} : kInK d_SWAPPED true (.im (.str (txt [c]))) sl ce = .ok (.im (.bl false)) ce := by
  unfold kInK
  simp only [in_swap]
  rfl
theorem init_loop (a0 a1 : Option Val) (ce : List Cell) : ∀ (ps : List (Int × Sg)) (l r : Nat) (acc : List D) (x y : Option Val), acc.length + ps.length < LINE →
    ∃ l' r' x' y', forD (gT [(gN 5), (gN 6)]) lp_Record___init___0 (ps.map fun p => D.tup [.int p.1, .str (txt [p.2])]) [a0, a1, some (.cell ce.length), some (.im (.int l)), some (.im (.int r)), x, y] (ce ++ [.lst acc]) =
      .nx [a0, a1, some (.cell ce.length), l', r', x', y'] (ce ++ [.lst (acc ++ rowsD l r (ps.map Prod.snd))])
  | [], l, r, acc, x, y, h => ⟨_, _, x, y, by rw [List.map_nil, forD, List.map_nil, rowsD, List.append_nil]⟩
  | (i, c) :: ps, l, r, acc, x, y, h => by
    rw [List.length_cons] at h
    have hl : acc.length < LINE := by omega
    rw [List.map_cons, forD]
    simp only [gT, gL, gN, List.set_cons_zero, List.set_cons_succ, Option.bind_some]
    have ih := fun l r acc h => init_loop a0 a1 ce ps l r acc (some (.im (.int i))) (some (.im (.str (txt [c])))) h
    have c1 : ((l : Int) + 1) = ((l + 1 : Nat) : Int) := rfl
    have c2 : ((r : Int) + 1) = ((r + 1 : Nat) : Int) := rfl
    cases c with
    | l =>
      obtain ⟨l', r', x', y', e⟩ := ih (l + 1) r (acc ++ [.tup [.int l, .non]]) (by rw [List.length_append, List.length_singleton]; omega)
      refine ⟨l', r', x', y', ?_⟩
      rw [List.map_cons, rowsD, show acc ++ D.tup [.int l, .non] :: rowsD (l + 1) r (ps.map Prod.snd) = acc ++ [.tup [.int l, .non]] ++ rowsD (l + 1) r (ps.map Prod.snd) by simp, ← e]
      unfold lp_Record___init___0
      simp? only [inK_swap, sl1, sl2, sl3, eq_txt, app_ok hl, c1, c2]
      try simp
    | e =>
      obtain ⟨l', r', x', y', e⟩ := ih (l + 1) (r + 1) (acc ++ [.tup [.int l, .int r]]) (by rw [List.length_append, List.length_singleton]; omega)
      refine ⟨l', r', x', y', ?_⟩
      rw [List.map_cons, rowsD, show acc ++ D.tup [.int l, .int r] :: rowsD (l + 1) (r + 1) (ps.map Prod.snd) = acc ++ [.tup [.int l, .int r]] ++ rowsD (l + 1) (r + 1) (ps.map Prod.snd) by simp, ← e]
      unfold lp_Record___init___0
      simp? only [inK_swap, sl1, sl2, sl3, eq_txt, app_ok hl, c1, c2]
      try simp
    | g =>
      obtain ⟨l', r', x', y', e⟩ := ih l (r + 1) (acc ++ [.tup [.non, .int r]]) (by rw [List.length_append, List.length_singleton]; omega)
      refine ⟨l', r', x', y', ?_⟩
      rw [List.map_cons, rowsD, show acc ++ D.tup [.non, .int r] :: rowsD l (r + 1) (ps.map Prod.snd) = acc ++ [.tup [.non, .int r]] ++ rowsD l (r + 1) (ps.map Prod.snd) by simp, ← e]
      unfold lp_Record___init___0
      simp? only [inK_swap, sl1, sl2, sl3, eq_txt, app_ok hl, c1, c2]
      try simp
theorem m_init (s : List Sg) (ce : List Cell) (h : s.length < 16777216) : f_Record___init__ [.cell ce.length, .im (.str (txt s))] (ce ++ [.ins c_Record []]) = .ok (.im .non) (ce ++ [.ins c_Record [.str (txt s), .lst (rowsD 0 0 s)]]) := by
  obtain ⟨ps, h1, h2⟩ := enum_ps (fun c => .str (txt [c])) s
  have e0 : kEnumS [.im (.str (txt s))] = some (ps.map fun p => D.tup [.int p.1, .str (txt [p.2])]) := by
    unfold kEnumS
    simp only [txt_signs, h2]
  have hl : ps.length = s.length := by rw [← h1, List.length_map]
  obtain ⟨l', r', x', y', e1⟩ := init_loop (some (.cell ce.length)) (some (.im (.str (txt s)))) (ce ++ [.ins c_Record []]) ps 0 0 [] none none (by show 0 + ps.length < 16777216; omega)
  rw [h1, List.nil_append] at e1
  unfold f_Record___init__ b_Record___init__
  have hz : ((0 : Nat) : Int) = 0 := rfl
  rw [hz] at e1
  simp only [List.length_append, List.append_assoc, List.length_cons, List.length_nil, List.cons_append, List.nil_append, Nat.reduceAdd] at e1
  have tk : ∀ (l : List Cell) (k : Nat), (ce ++ l).take (ce.length + k) = ce ++ l.take k := fun l k => List.take_length_add_append k
  simp? only [e0, e1, List.length_append, List.append_assoc, sFldSet, finD, tk, Nat.lt_irrefl, Nat.reduceLT, List.take_succ_cons, List.take_zero]
theorem m_make (s : List Sg) (sl : Sl) (ce : List Cell) (h : s.length < 16777216) : kMake c_Record 2 f_Record___init__ [.im (.str (txt s))] sl ce = .ok (.im (recD s)) ce := by
  unfold kMake
  simp only [List.all_cons, plainV, List.all_nil, Bool.and_self, if_true]
  rw [m_init s ce h]
  simp [recD]
theorem fld_s {s : List Sg} {sl : Sl} {ce : List Cell} : kFld c_Record 0 (.im (recD s)) sl ce = .ok (.im (.str (txt s))) ce := by simp [kFld, recD]
theorem isC_s {s : List Sg} {ce : List Cell} : isC c_Record ce (.im (recD s)) = true := rfl
/-- small, of one shape -/
structure Sm (L R : Nat) (s : List Sg) : Prop where
  i : In L R s
  l : L ≤ 400
  r : R ≤ 400
theorem Sm.len {L R : Nat} {s : List Sg} (h : Sm L R s) : s.length ≤ 800 := by
  have := len_le s
  have h1 := h.i.1
  have h2 := h.i.2
  have h3 := h.l
  have h4 := h.r
  omega
section
variable {L R : Nat} {a b c : List Sg} {sl : Sl} {ce : List Cell}
theorem Sm.join (ha : Sm L R a) (hb : Sm L R b) : Sm L R (join a b) := ⟨ha.i.join hb.i, ha.l, ha.r⟩
end
end ZZ
set_option Elab.async false
set_option linter.all false
set_option maxRecDepth 100000
set_option maxHeartbeats 4000000
namespace ZZ
open PySem PySem.Spec L2
section
variable {L R : Nat} {a b c : List Sg} {sl : Sl} {ce : List Cell}
theorem m_rlen (s : List Sg) (h : s.length ≤ 16777216) : f_Record___len__ [.im (recD s)] ce = .ok (.im (.int (s.length : Nat))) ce := by
  unfold f_Record___len__ b_Record___len__
  simp? only [fld_s, txt_len, h, finD, List.take_length]
theorem len_r (s : List Sg) (h : s.length ≤ 16777216) : kLenO c_Record f_Record___len__ (.im (recD s)) sl ce = .ok (.im (.int (s.length : Nat))) ce := by
  have hb : (Nat.ble ((s.length : Nat) : Int).natAbs 4611686018427387903 && decide (0 ≤ ((s.length : Nat) : Int))) = true := by
    rw [Bool.and_eq_true, Nat.ble_eq, decide_eq_true_eq]
    omega
  unfold kLenO
  simp only [isC_s, m_rlen s h, if_true, hb]
theorem own1_r (fh : DF) : kOwn1 c_Record fh (.im (recD a)) sl ce = fh [.im (recD a)] ce := by
  unfold kOwn1
  rw [isC_s]
  rfl
end
end ZZ
set_option Elab.async false
set_option linter.all false
set_option maxRecDepth 100000
set_option maxHeartbeats 4000000
namespace ZZ
open PySem PySem.Spec L2
theorem mul_ok_l {i j : Int} (h : i.natAbs < 2 ^ 64) : mulOK i j = true := by
  unfold mulOK
  simp only [h, decide_true, Bool.true_or, Bool.or_true]
theorem mul_ok_r {i j : Int} (h : j.natAbs < 2 ^ 64) : mulOK i j = true := by
  unfold mulOK
  simp only [h, decide_true, Bool.or_true]
def mixI (c t : Int) : Int := (c * 97 * (t + 1) + 31 * t) % 1000003 + (c * 97 * (t + 1) + 31 * t) % 1000003 * ((c * 97 * (t + 1) + 31 * t) % 1000003) / 1013
theorem m_mix' (c t : Int) (ce : List Cell) (h0 : 0 ≤ t) (h1 : t < 2 ^ 60) : f__law_mix [.im (.int c), .im (.int t)] ce = .ok (.im (.int (mixI c t))) ce := by
  have e1 : mulOK c 97 = true := mul_ok_r (by decide)
  have e2 : mulOK (c * 97) (t + 1) = true := mul_ok_r (by omega)
  have e3 : mulOK 31 t = true := mul_ok_l (by decide)
  have e4 : ∀ x : Int, mulOK (x % 1000003) (x % 1000003) = true := fun x => mul_ok_r (by omega)
  unfold f__law_mix b__law_mix
  simp? only [kMul, kDiv, e1, e2, e3, e4, finD, List.take_length, Int.reduceLT]
  rfl
theorem m_draw (k : Nat) (ds : List Int) (b : Int) (ce : List Cell) (hk : ce[k]? = some (.lst (ds.map .int))) (hb : 0 < b) : ∃ r ds', 0 ≤ r ∧ r < b ∧ f__law_draw [.cell k, .im (.int b)] ce = .ok (.im (.int r)) (ce.set k (.lst (List.map D.int ds'))) := by
  unfold f__law_draw b__law_draw
  cases ds with
  | nil =>
    refine ⟨0, [], Int.le_refl _, hb, ?_⟩
    have e : ce.set k (.lst (List.map D.int [])) = ce := by
      refine List.ext_getElem? fun j => ?_
      by_cases hj : k = j
      · subst hj
        rw [List.getElem?_set_self (List.getElem?_eq_some_iff.mp hk).1, hk]
      · rw [List.getElem?_set_ne hj]
    rw [e]
    rw [List.map_nil] at hk
    have hz : ((0 : Nat) : Int) = 0 := rfl
    simp? only [hk, eq_int, hz, finD, List.take_length]
  | cons d ds =>
    refine ⟨d % b, ds, Int.emod_nonneg _ (by omega), Int.emod_lt_of_pos _ hb, ?_⟩
    rw [List.map_cons] at hk
    have e : ¬ (((D.int d :: ds.map D.int).length : Nat) : Int) = 0 := by rw [List.length_cons]; omega
    have e2 : seqIndex? 0 (D.int d :: ds.map D.int).length = some 0 := by
      unfold seqIndex?
      rw [List.length_cons]
      simp
      try omega
    have kp : ∀ sl, kPopAt (.cell k) [.im (.int 0)] sl ce = .ok (.im (.int d)) (ce.set k (.lst (ds.map D.int))) := fun sl => by
      unfold kPopAt
      simp only [hk, e2]
      rw [if_pos ⟨by decide, by decide⟩]
      rfl
    simp only [eTru, mkD, List.map_cons, List.map_nil, Nat.reduceAdd, Nat.reduceSub, List.replicate_succ, List.replicate_zero, List.cons_append, List.nil_append, sSeq, sSet, sRet, sExp, sDrop, sIf, sNil, sFor, eBin, eUn, eBind, eV, eC, eArgs, eAnd, eOr, eNot, eIf, eMth, eTru, kBool, List.getElem?_cons_zero, List.getElem?_cons_succ, List.set_cons_zero, List.set_cons_succ, if_true, if_false, ite_true, ite_false, Bool.false_eq_true, eq_self_iff_true, reduceIte, ims, Option.map_some, kTup, kLst, kLstC, kCall, List.all_cons, List.all_nil, plainV, Bool.and_true, Bool.true_and, iExp, iArgs, itS, itL, itT, itLT, gN, gT, gL, Option.bind_some, frz, ce_get, ce_get0, ce_set, ce_set0, ce_take, asL, asSq, asIm, truV, kTru, kAdd, kSub, kMod, kLen, kInt, kMin, kMax, kCmp, kIsB, tyL, tyS, Option.isSome_some, Bool.and_self, beq_self_eq_true, Option.isSome, Bool.or_true, Bool.true_or, Bool.not_true, Bool.not_false, Bool.false_and, Bool.and_false, Bool.or_false, Bool.false_or, List.cons.injEq, reduceCtorEq, false_and, and_false, and_self, and_true, true_and, decide_true, decide_false, Nat.reduceLeDiff, LINE, hk, eq_int, e, kp, hb, finD, set_take]
def scr (ns : List Int) : D := .wl (ns.map .int)
theorem pool_in (ns : List Int) (many seed : Option Val) (k : Nat) (v : Int) (hk : ns[k]? = some v) (g : Bool) (ce : List Cell) : ∀ (js : List Int) (ρ : Int) (ds : List Int) (x7 : Option Val), (∀ j ∈ js, 0 ≤ j ∧ j < 100) → ds.length + js.length < 16777216 →
    ∃ (ds' : List Int) (ρ' : Int) (y7 : Option Val), forD (gN 7) lp__law_pool_0 (js.map .int) [some (.im (scr ns)), many, some (.cell ce.length), seed, some (.im (.int k)), some (.im (.int ρ)), some (.im (.bl g)), x7] (ce ++ [.lst (ds.map .int)]) =
      .nx [some (.im (scr ns)), many, some (.cell ce.length), seed, some (.im (.int k)), some (.im (.int ρ')), some (.im (.bl g)), y7] (ce ++ [.lst (ds'.map D.int)]) ∧ ds'.length ≤ ds.length + js.length
  | [], ρ, ds, x7, hj, h => ⟨ds, ρ, x7, by rw [List.map_nil, forD], by simp⟩
  | j :: js, ρ, ds, x7, hj, h => by
    rw [List.length_cons] at h
    have hj0 := hj j (List.mem_cons_self ..)
    have ih := fun ρ ds x7 h => pool_in ns many seed k v hk g ce js ρ ds x7 (fun j hm => hj j (List.mem_cons_of_mem _ hm)) h
    have app : ∀ (x : Int) sl, kAppend (.cell ce.length) [.im (.int x)] sl (ce ++ [.lst (ds.map .int)]) = .ok (.im .non) (ce ++ [.lst ((ds ++ [x]).map .int)]) := fun x sl => by
      rw [app_ok (by rw [List.length_map]; show ds.length < 16777216; omega), List.map_append]
      rfl
    have ix : ∀ sl ce, kIx (.im (scr ns)) (.im (.int k)) sl ce = .ok (.im (.int v)) ce := fun sl ce => by
      unfold kIx scr
      have hlt := (List.getElem?_eq_some_iff.mp hk).1
      have e : atI (ns.map D.int) (k : Int) = some (.int v) := by
        unfold atI ixN
        rw [if_pos (by omega), if_pos (by rw [List.length_map]; omega), Int.toNat_natCast, Option.bind_some, List.getElem?_map, hk]
        rfl
      simp only [asSq, e]
    have go : ∀ (ρ2 : Int) (ds2 : List Int), ds2.length ≤ ds.length + 1 → lp__law_pool_0 [some (.im (scr ns)), many, some (.cell ce.length), seed, some (.im (.int k)), some (.im (.int ρ)), some (.im (.bl g)), some (.im (.int j))] (ce ++ [.lst (ds.map .int)]) = .nx [some (.im (scr ns)), many, some (.cell ce.length), seed, some (.im (.int k)), some (.im (.int ρ2)), some (.im (.bl g)), some (.im (.int j))] (ce ++ [.lst (ds2.map .int)]) →
        ∃ (ds' : List Int) (ρ' : Int) (y7 : Option Val), forD (gN 7) lp__law_pool_0 ((j :: js).map .int) [some (.im (scr ns)), many, some (.cell ce.length), seed, some (.im (.int k)), some (.im (.int ρ)), some (.im (.bl g)), x7] (ce ++ [.lst (ds.map .int)]) =
      .nx [some (.im (scr ns)), many, some (.cell ce.length), seed, some (.im (.int k)), some (.im (.int ρ')), some (.im (.bl g)), y7] (ce ++ [.lst (ds'.map D.int)]) ∧ ds'.length ≤ ds.length + (js.length + 1) := fun ρ2 ds2 hd2 hb => by
      obtain ⟨ds', ρ', y7, e, q⟩ := ih ρ2 ds2 (some (.im (.int j))) (by omega)
      refine ⟨ds', ρ', y7, ?_, by omega⟩
      rw [List.map_cons, forD]
      simp only [gN, List.set_cons_zero, List.set_cons_succ, hb]
      exact e
    rw [List.length_cons]
    cases g with
    | true =>
      by_cases hp : 0 < ρ
      · refine go (ρ / 1000003) (ds ++ [ρ % 1000003]) (by simp) ?_
        unfold lp__law_pool_0
        simp? only [kDiv, hp, app, Int.reduceLT]
      · refine go ρ ds (by omega) ?_
        unfold lp__law_pool_0
        simp? only [kDiv, hp, app, Int.reduceLT]
    | false =>
      by_cases hp : j < 6
      · have er := fun ce => m_mix' v j ce hj0.1 (by omega)
        refine go ρ (ds ++ [mixI v j]) (by simp) ?_
        unfold lp__law_pool_0
        simp? only [hp, ix, er, app]
      · refine go ρ ds (by omega) ?_
        unfold lp__law_pool_0
        simp? only [hp]
theorem m_ix (ns : List Int) (k : Nat) (v : Int) (hk : ns[k]? = some v) (sl : Sl) (ce : List Cell) : kIx (.im (scr ns)) (.im (.int k)) sl ce = .ok (.im (.int v)) ce := by
  unfold kIx scr
  have hlt := (List.getElem?_eq_some_iff.mp hk).1
  have e : atI (ns.map D.int) (k : Int) = some (.int v) := by
    unfold atI ixN
    rw [if_pos (by omega), if_pos (by rw [List.length_map]; omega), Int.toNat_natCast, Option.bind_some, List.getElem?_map, hk]
    rfl
  simp only [asSq, e]
theorem pool_out (ns : List Int) (hn : ns.length ≤ 63) (many : Option Val) (ce : List Cell) : ∀ (ks : List Nat) (s : Int) (ds : List Int) (x4 x5 x6 x7 : Option Val), (∀ k ∈ ks, k < ns.length) → ds.length + 60 * ks.length < 16777216 →
    ∃ (ds' : List Int) (s' : Int) (y4 y5 y6 y7 : Option Val), forD (gN 4) lp__law_pool_1 (ks.map fun (k : Nat) => D.int (k : Int)) [some (.im (scr ns)), many, some (.cell ce.length), some (.im (.int s)), x4, x5, x6, x7] (ce ++ [.lst (ds.map .int)]) =
      .nx [some (.im (scr ns)), many, some (.cell ce.length), some (.im (.int s')), y4, y5, y6, y7] (ce ++ [.lst (ds'.map D.int)]) ∧ ds'.length ≤ ds.length + 60 * ks.length
  | [], s, ds, x4, x5, x6, x7, hj, h => ⟨ds, s, x4, x5, x6, x7, by rw [List.map_nil, forD], by simp⟩
  | k :: ks, s, ds, x4, x5, x6, x7, hj, h => by
    rw [List.length_cons] at h
    have hk0 := hj k (List.mem_cons_self ..)
    have hv : ns[k]? = some ns[k] := List.getElem?_eq_getElem hk0
    generalize ns[k] = v at hv
    have kr := rng1 60 (by decide)
    have hpow : ∀ sl ce, kPow (.im (.int 10)) (.im (.int 18)) sl ce = .ok (.im (.int (10 ^ 18))) ce := fun sl ce => by
      unfold kPow
      simp only []
      rw [if_pos (by decide)]
      rfl
    have hmul : mulOK v ((k : Int) + 1) = true := mul_ok_r (by omega)
    obtain ⟨ds1, ρ1, y7, e1, q1⟩ := pool_in ns many (some (.im (.int ((s + v * ((k : Int) + 1)) % 1000003)))) k v hv (decide (10 ^ 18 ≤ (if v < 0 then -v else v))) ce ((List.range 60).map fun (i : Nat) => (i : Int)) (if v < 0 then -v else v) ds x7 (fun j hm => by
      obtain ⟨i, hi, rfl⟩ := List.mem_map.mp hm
      rw [List.mem_range] at hi
      omega) (by rw [List.length_map, List.length_range]; omega)
    rw [List.map_map] at e1
    rw [List.length_map, List.length_range] at q1
    have hf : (D.int ∘ fun (i : Nat) => (i : Int)) = fun (i : Nat) => D.int (i : Int) := rfl
    rw [hf] at e1
    obtain ⟨ds', s', z4, z5, z6, z7, e, q⟩ := pool_out ns hn many ce ks ((s + v * ((k : Int) + 1)) % 1000003) ds1 (some (.im (.int k))) (some (.im (.int ρ1))) (some (.im (.bl (decide (10 ^ 18 ≤ (if v < 0 then -v else v)))))) y7 (fun k hm => hj k (List.mem_cons_of_mem _ hm)) (by omega)
    refine ⟨ds', s', z4, z5, z6, z7, ?_, by rw [List.length_cons]; omega⟩
    rw [List.map_cons, forD]
    simp only [gN, List.set_cons_zero, List.set_cons_succ]
    rw [← e]
    unfold lp__law_pool_1
    have kr' : kRng1 [.im (.int 60)] = some ((List.range 60).map fun (i : Nat) => D.int (i : Int)) := kr
    simp? only [kMul, kAbs, m_ix ns k v hv, hmul, hpow, kr', e1, Int.reduceLT]
theorem pool_fill (many : Nat) (hm : many ≤ 1000) (a0 a4 a5 a6 : Option Val) (s : Int) (ce : List Cell) : ∀ (js : List D) (ds : List Int) (x7 : Option Val), ds.length + js.length < 16777216 →
    ∃ (ds' : List Int) (y7 : Option Val), forD (gN 7) lp__law_pool_2 js [a0, some (.im (.int many)), some (.cell ce.length), some (.im (.int s)), a4, a5, a6, x7] (ce ++ [.lst (ds.map .int)]) =
      .nx [a0, some (.im (.int many)), some (.cell ce.length), some (.im (.int s)), a4, a5, a6, y7] (ce ++ [.lst (ds'.map D.int)])
  | [], ds, x7, h => ⟨ds, x7, by rw [forD]⟩
  | j :: js, ds, x7, h => by
    rw [List.length_cons] at h
    have app : ∀ (x : Int) sl, kAppend (.cell ce.length) [.im (.int x)] sl (ce ++ [.lst (ds.map .int)]) = .ok (.im .non) (ce ++ [.lst ((ds ++ [x]).map .int)]) := fun x sl => by
      rw [app_ok (by rw [List.length_map]; show ds.length < 16777216; omega), List.map_append]
      rfl
    rw [forD]
    simp only [gN, List.set_cons_zero, List.set_cons_succ]
    by_cases hl : ds.length < many
    · obtain ⟨ds', y7, e⟩ := pool_fill many hm a0 a4 a5 a6 s ce js (ds ++ [mixI s ds.length]) (some (.im j)) (by rw [List.length_append, List.length_singleton]; omega)
      refine ⟨ds', y7, ?_⟩
      rw [← e]
      have hl' : (ds.length : Int) < (many : Int) := by omega
      have er := fun ce => m_mix' s ds.length ce (by omega) (by omega)
      unfold lp__law_pool_2
      simp? only [List.length_map, hl', er, app]
    · obtain ⟨ds', y7, e⟩ := pool_fill many hm a0 a4 a5 a6 s ce js ds (some (.im j)) (by omega)
      refine ⟨ds', y7, ?_⟩
      rw [← e]
      have hl' : ¬ (ds.length : Int) < (many : Int) := by omega
      unfold lp__law_pool_2
      simp? only [List.length_map, hl']
theorem m_pool (ns : List Int) (hn : ns.length ≤ 63) (many : Nat) (hm : many ≤ 1000) (ce : List Cell) : ∃ ds : List Int, f__law_pool [.im (scr ns), .im (.int many)] ce = .ok (.cell ce.length) (ce ++ [.lst (ds.map .int)]) := by
  obtain ⟨ds1, s1, y4, y5, y6, y7, e1, q1⟩ := pool_out ns hn (some (.im (.int many))) ce (List.range ns.length) 0 [] none none none none (fun k h => List.mem_range.mp h) (by rw [List.length_range]; simp; omega)
  rw [List.length_range, List.length_nil] at q1
  obtain ⟨ds2, z7, e2⟩ := pool_fill many hm (some (.im (scr ns))) y4 y5 y6 s1 ce ((List.range many).map fun (i : Nat) => D.int (i : Int)) ds1 y7 (by rw [List.length_map, List.length_range]; omega)
  refine ⟨ds2, ?_⟩
  have hmin : ∀ (sl : Sl) (ce : List Cell), kMin [.im (.int (ns.length : Int)), .im (.int 63)] sl ce = .ok (.im (.int (ns.length : Int))) ce := fun sl ce => by
    unfold kMin
    have : ¬ (63 : Int) < (ns.length : Int) := by omega
    simp only [this, if_false, eC]
  have k1 := rng1 ns.length (by omega)
  have k2 := rng1 many (by omega)
  rw [List.map_nil] at e1
  have hlen : ∀ (sl : Sl) (ce : List Cell), kLen [.im (scr ns)] sl ce = .ok (.im (.int (ns.length : Int))) ce := fun sl ce => by
    unfold kLen scr
    simp only [asSq, List.length_map]
  unfold f__law_pool b__law_pool
  simp? only [-kLen, -kMin, hlen, hmin, k1, k2, e1, e2, finD, Nat.lt_irrefl]
end ZZ
set_option Elab.async false
set_option linter.all false
set_option maxRecDepth 100000
set_option maxHeartbeats 4000000
namespace ZZ
open PySem PySem.Spec L2
theorem ix_sign (r : Int) (h0 : 0 ≤ r) (h1 : r < 4) : ∃ c : Sg, ∀ sl ce, kIx (.im (.str "<=>=")) (.im (.int r)) sl ce = .ok (.im (.str (txt [c]))) ce := by
  have e : r = 0 ∨ r = 1 ∨ r = 2 ∨ r = 3 := by omega
  have es : ("<=>=" : Str) = txt [.l, .e, .g, .e] := by decide +kernel
  rcases e with rfl | rfl | rfl | rfl
  · exact ⟨.l, fun sl ce => by rw [es]; rfl⟩
  · exact ⟨.e, fun sl ce => by rw [es]; rfl⟩
  · exact ⟨.g, fun sl ce => by rw [es]; rfl⟩
  · exact ⟨.e, fun sl ce => by rw [es]; rfl⟩
theorem path_loop (k L R : Nat) (hL : L ≤ 400) (hR : R ≤ 400) : ∀ (items : List D) (s : List Sg) (ds : List Int) (ce : List Cell) (x6 x7 : Option Val), ce[k]? = some (.lst (ds.map .int)) → lefts s ≤ L → rights s ≤ R →
    ∃ (s' : List Sg) (ds' : List Int) (y6 y7 : Option Val), forD (gN 6) lp__law_path_0 items [some (.cell k), some (.im (.int L)), some (.im (.int R)), some (.im (.str (txt s))), some (.im (.int (lefts s : Nat))), some (.im (.int (rights s : Nat))), x6, x7] ce =
      .nx [some (.cell k), some (.im (.int L)), some (.im (.int R)), some (.im (.str (txt s'))), some (.im (.int (lefts s' : Nat))), some (.im (.int (rights s' : Nat))), y6, y7] (ce.set k (.lst (ds'.map D.int))) ∧ lefts s' ≤ L ∧ rights s' ≤ R ∧
      ((lefts s' = L ∧ rights s' = R) ∨ lefts s + rights s + items.length ≤ lefts s' + rights s')
  | [], s, ds, ce, x6, x7, hk, h1, h2 => by
    have e : ce.set k (.lst (ds.map D.int)) = ce := by
      refine List.ext_getElem? fun j => ?_
      by_cases hj : k = j
      · subst hj
        rw [List.getElem?_set_self (List.getElem?_eq_some_iff.mp hk).1, hk]
      · rw [List.getElem?_set_ne hj]
    exact ⟨s, ds, x6, x7, by rw [forD, e], h1, h2, .inr (by simp)⟩
  | d :: items, s, ds, ce, x6, x7, hk, h1, h2 => by
    obtain ⟨r, ds1, r0, r1, ed⟩ := m_draw k ds 4 ce hk (by decide)
    obtain ⟨c, ec⟩ := ix_sign r r0 r1
    have hk1 : (ce.set k (.lst (ds1.map D.int)))[k]? = some (.lst (ds1.map .int)) := List.getElem?_set_self (List.getElem?_eq_some_iff.mp hk).1
    have ih := fun s x7 h1 h2 => path_loop k L R hL hR items s ds1 (ce.set k (.lst (ds1.map D.int))) (some (.im d)) x7 hk1 h1 h2
    simp only [List.set_set] at ih
    have hlen := len_le s
    have step : ∀ c2 : Sg, lefts (s ++ [c2]) = lefts s + (if c2 = .g then 0 else 1) ∧ rights (s ++ [c2]) = rights s + (if c2 = .l then 0 else 1) := fun c2 => by
      rw [lefts_app, rights_app, lefts_cons, rights_cons]
      simp [lefts, rights]
    have ad : ∀ (c2 : Sg) sl ce, kAdd (.im (.str (txt s))) (.im (.str (txt [c2]))) sl ce = .ok (.im (.str (txt (s ++ [c2])))) ce := fun c2 sl ce => add_s s [c2] (by simp; omega)
    have ai : ∀ (i j : Int) sl ce, kAdd (.im (.int i)) (.im (.int j)) sl ce = .ok (.im (.int (i + j))) ce := fun i j sl ce => rfl
    rw [forD]
    simp only [gN, List.set_cons_zero, List.set_cons_succ]
    unfold lp__law_path_0
    by_cases hx : lefts s = L
    · by_cases hy : rights s = R
      · obtain ⟨s', ds', y6, y7, e, q1, q2, q3⟩ := ih s (some (.im (.str (txt [.l])))) h1 h2
        refine ⟨s', ds', y6, y7, ?_, q1, q2, ?_⟩
        · rw [← e]
          have e1 : ((lefts s : Nat) : Int) = (L : Int) := by omega
          have e2 : ((rights s : Nat) : Int) = (R : Int) := by omega
          simp? only [-kAdd, ed, ec, eq_int, e1, e2, sl1, sl3, Int.lt_irrefl]
          rfl
        · rcases q3 with q3 | q3
          · exact .inl q3
          · exact .inl ⟨by omega, by omega⟩
      · obtain ⟨t1, t2⟩ := step .g
        simp only [if_true, reduceCtorEq, if_false] at t1 t2
        obtain ⟨s', ds', y6, y7, e, q1, q2, q3⟩ := ih (s ++ [.g]) (some (.im (.str (txt [.g])))) (by omega) (by omega)
        refine ⟨s', ds', y6, y7, ?_, q1, q2, ?_⟩
        · rw [← e, t1, t2]
          have e1 : ((lefts s : Nat) : Int) = (L : Int) := by omega
          have e2 : ¬ ((rights s : Nat) : Int) = (R : Int) := by omega
          have e3 : ((rights s : Nat) : Int) < (R : Int) := by omega
          have e4 : ((rights s : Nat) : Int) + 1 = ((rights s + 1 : Nat) : Int) := rfl
          simp? only [-kAdd, ed, ec, eq_int, eq_txt, e1, e2, e3, e4, sl1, sl3, ad, ai, Int.lt_irrefl, Int.add_zero, Nat.add_zero]
          rfl
        · rcases q3 with q3 | q3
          · exact .inl q3
          · exact .inr (by rw [List.length_cons]; omega)
    · by_cases hy : rights s = R
      · obtain ⟨t1, t2⟩ := step .l
        simp only [if_true, reduceCtorEq, if_false] at t1 t2
        obtain ⟨s', ds', y6, y7, e, q1, q2, q3⟩ := ih (s ++ [.l]) (some (.im (.str (txt [.l])))) (by omega) (by omega)
        refine ⟨s', ds', y6, y7, ?_, q1, q2, ?_⟩
        · rw [← e, t1, t2]
          have e1 : ¬ ((lefts s : Nat) : Int) = (L : Int) := by omega
          have e2 : ((rights s : Nat) : Int) = (R : Int) := by omega
          have e3 : ((lefts s : Nat) : Int) < (L : Int) := by omega
          have e4 : ((lefts s : Nat) : Int) + 1 = ((lefts s + 1 : Nat) : Int) := rfl
          simp? only [-kAdd, ed, ec, eq_int, eq_txt, e1, e2, e3, e4, sl1, sl3, ad, ai, Int.lt_irrefl, Int.add_zero, Nat.add_zero]
          rfl
        · rcases q3 with q3 | q3
          · exact .inl q3
          · exact .inr (by rw [List.length_cons]; omega)
      · have e1 : ¬ ((lefts s : Nat) : Int) = (L : Int) := by omega
        have e2 : ¬ ((rights s : Nat) : Int) = (R : Int) := by omega
        have e3 : ((lefts s : Nat) : Int) < (L : Int) := by omega
        have e5 : ((lefts s : Nat) : Int) + 1 = ((lefts s + 1 : Nat) : Int) := rfl
        have e6 : ((rights s : Nat) : Int) + 1 = ((rights s + 1 : Nat) : Int) := rfl
        cases c with
        | l =>
          obtain ⟨t1, t2⟩ := step .l
          simp only [if_true, reduceCtorEq, if_false] at t1 t2
          obtain ⟨s', ds', y6, y7, e, q1, q2, q3⟩ := ih (s ++ [.l]) (some (.im (.str (txt [.l])))) (by omega) (by omega)
          refine ⟨s', ds', y6, y7, ?_, q1, q2, ?_⟩
          · rw [← e, t1, t2]
            simp? only [-kAdd, ed, ec, eq_int, eq_txt, e1, e2, e3, e5, e6, sl1, sl3, ad, ai, Int.lt_irrefl, Int.add_zero, Nat.add_zero]
            rfl
          · rcases q3 with q3 | q3
            · exact .inl q3
            · exact .inr (by rw [List.length_cons]; omega)
        | e =>
          obtain ⟨t1, t2⟩ := step .e
          simp only [if_true, reduceCtorEq, if_false] at t1 t2
          obtain ⟨s', ds', y6, y7, e, q1, q2, q3⟩ := ih (s ++ [.e]) (some (.im (.str (txt [.e])))) (by omega) (by omega)
          refine ⟨s', ds', y6, y7, ?_, q1, q2, ?_⟩
          · rw [← e, t1, t2]
            simp? only [-kAdd, ed, ec, eq_int, eq_txt, e1, e2, e3, e5, e6, sl1, sl3, ad, ai, Int.lt_irrefl, Int.add_zero, Nat.add_zero]
            rfl
          · rcases q3 with q3 | q3
            · exact .inl q3
            · exact .inr (by rw [List.length_cons]; omega)
        | g =>
          obtain ⟨t1, t2⟩ := step .g
          simp only [if_true, reduceCtorEq, if_false] at t1 t2
          obtain ⟨s', ds', y6, y7, e, q1, q2, q3⟩ := ih (s ++ [.g]) (some (.im (.str (txt [.g])))) (by omega) (by omega)
          refine ⟨s', ds', y6, y7, ?_, q1, q2, ?_⟩
          · rw [← e, t1, t2]
            simp? only [-kAdd, ed, ec, eq_int, eq_txt, e1, e2, e3, e5, e6, sl1, sl3, ad, ai, Int.lt_irrefl, Int.add_zero, Nat.add_zero]
            rfl
          · rcases q3 with q3 | q3
            · exact .inl q3
            · exact .inr (by rw [List.length_cons]; omega)
theorem m_path (k L R : Nat) (hL : L ≤ 400) (hR : R ≤ 400) (ds : List Int) (ce : List Cell) (hk : ce[k]? = some (.lst (ds.map .int))) : ∃ s ds', f__law_path [.cell k, .im (.int L), .im (.int R)] ce = .ok (.im (.str (txt s))) (ce.set k (.lst (List.map D.int ds'))) ∧ Sm L R s := by
  obtain ⟨s', ds', y6, y7, e, q1, q2, q3⟩ := path_loop k L R hL hR ((List.range (L + R)).map fun (i : Nat) => D.int (i : Int)) [] ds ce none none hk (Nat.zero_le _) (Nat.zero_le _)
  rw [List.length_map, List.length_range] at q3
  have e00 : lefts [] = 0 := rfl
  have e01 : rights [] = 0 := rfl
  rw [e00, e01] at q3 e
  have hz : ((0 : Nat) : Int) = 0 := rfl
  rw [hz] at e
  refine ⟨s', ds', ?_, ⟨⟨by omega, by omega⟩, hL, hR⟩⟩
  unfold f__law_path b__law_path
  have kr := rng1 (L + R) (by omega)
  rw [Int.natCast_add] at kr
  have ai : ∀ (i j : Int) sl ce, kAdd (.im (.int i)) (.im (.int j)) sl ce = .ok (.im (.int (i + j))) ce := fun i j sl ce => rfl
  have es : ("" : Str) = txt [] := txt_nil.symm
  simp? only [-kAdd, ai, kr, es, e, finD, set_take]
end ZZ
set_option Elab.async false
set_option linter.all false
set_option maxRecDepth 100000
set_option maxHeartbeats 4000000
namespace ZZ
open PySem PySem.Spec L2
end ZZ
set_option Elab.async false
set_option linter.all false
set_option maxRecDepth 100000
set_option maxHeartbeats 4000000
namespace ZZ
open PySem PySem.Spec L2
section
variable {L R : Nat} {a b c : List Sg} {sl : Sl} {ce : List Cell}
theorem it_swap (c : Sg) : kItK d_SWAPPED (.im (.str (txt [c]))) sl ce = .ok (.im (.str (txt [swp c]))) ce := by
  have e : d_SWAPPED.lookup (txt [c]) = some (.str (txt [swp c])) := by
    unfold d_SWAPPED
    cases c <;> rfl
  unfold kItK
  simp only [e]
theorem flat_swap (s : List Sg) : (s.map fun c => [swp c]).flatten = swap s := by
  induction s with
  | nil => rfl
  | cons c s ih => rw [List.map_cons, List.flatten_cons, ih]; rfl
theorem m_neg (s : List Sg) (h : s.length < 16777216) : f_Record___neg__ [.im (recD s)] ce = .ok (.im (recD (swap s))) ce := by
  have es : ("" : Str) = txt [] := txt_nil.symm
  have lc := fun ce => lc_map (own := [1]) (fi := iExp (eUn (kFld c_Record 0) (eV 0)) itS) (g := gN 1) (f := el_Record___neg___0) (sl := [some (.im (recD s)), none]) (ce := ce) s (fun c => .str (txt [c])) (fun c => .str (txt [swp c])) (by simp? only [fld_s, txt_signs]) h (fun c hc acc => ⟨_, rfl, by
    unfold el_Record___neg___0
    simp? only [wipeD, it_swap]⟩)
  simp only [eUn] at lc
  have lj : (s.map fun c => D.str (txt [swp c])) = (s.map fun c => [swp c]).map fun s => D.str (txt s) := by rw [List.map_map]; rfl
  have kj : ∀ (sl : Sl) (ce : List Cell), kJoin (.im (.str (txt []))) [.im (.lst (s.map fun c => D.str (txt [swp c])))] sl ce = .ok (.im (.str (txt (swap s)))) ce := fun sl ce => by
    rw [lj]
    unfold kJoin
    simp only [asL, strs_map, sum_len, flat_swap]
    rw [if_pos (by rw [txt_len, List.length_map, List.length_map]; unfold swap; rw [List.length_map]; simp; omega), txt_join, flat_swap]
  have hsw : (swap s).length < 16777216 := by unfold swap; rw [List.length_map]; exact h
  unfold f_Record___neg__ b_Record___neg__
  simp? only [es, lc, kj, m_make (swap s) _ _ hsw, finD, List.take_length]
end
end ZZ
set_option Elab.async false
set_option linter.all false
set_option maxRecDepth 100000
set_option maxHeartbeats 4000000
namespace ZZ
open PySem PySem.Spec L2
end ZZ
set_option Elab.async false
set_option linter.all false
set_option maxRecDepth 100000
set_option maxHeartbeats 4000000
namespace ZZ
open PySem PySem.Spec L2
def prD (p : Sg × Nat) : D := .tup [.str (txt [p.1]), .int p.2]
def addR (rs : List (Sg × Nat)) (c : Sg) : List (Sg × Nat) := match rs.getLast? with
  | some (d, n) => if d = c then rs.dropLast ++ [(c, n + 1)] else rs ++ [(c, 1)]
  | none => [(c, 1)]
def runsF (s : List Sg) : List (Sg × Nat) := s.foldl addR []
theorem addR_nil (c : Sg) : addR [] c = [(c, 1)] := rfl
theorem addR_same (i : List (Sg × Nat)) (c : Sg) (n : Nat) : addR (i ++ [(c, n)]) c = i ++ [(c, n + 1)] := by
  unfold addR
  simp
theorem addR_other (i : List (Sg × Nat)) (d c : Sg) (n : Nat) (h : d ≠ c) : addR (i ++ [(d, n)]) c = i ++ [(d, n)] ++ [(c, 1)] := by
  unfold addR
  simp [h]
theorem runs_snoc (s : List Sg) (c : Sg) : runsF (s ++ [c]) = addR (runsF s) c := by
  unfold runsF
  rw [List.foldl_append]
  rfl
theorem addR_len (rs : List (Sg × Nat)) (c : Sg) : (addR rs c).length ≤ rs.length + 1 := by
  rcases List.eq_nil_or_concat rs with rfl | ⟨i, ⟨d, n⟩, rfl⟩
  · simp [addR_nil]
  · rw [List.concat_eq_append]
    by_cases h : d = c
    · subst h
      rw [addR_same]
      simp
    · rw [addR_other _ _ _ _ h]
      simp
theorem foldR_len (s : List Sg) (rs : List (Sg × Nat)) : (s.foldl addR rs).length ≤ rs.length + s.length := by
  induction s generalizing rs with
  | nil => simp
  | cons c s ih =>
    have := ih (addR rs c)
    have h2 := addR_len rs c
    rw [List.foldl_cons, List.length_cons]
    omega
theorem runs_len (s : List Sg) : (runsF s).length ≤ s.length := by
  have := foldR_len s []
  simpa [runsF] using this
theorem atI_last {α : Type} (l : List α) (x : α) : atI (l ++ [x]) (-1) = some x := by
  unfold atI ixN
  rw [if_neg (by omega), if_pos (by rw [List.length_append, List.length_singleton]; omega)]
  have : ((-1 : Int) + ((l ++ [x]).length : Nat)).toNat = l.length := by rw [List.length_append, List.length_singleton]; omega
  rw [this, Option.bind_some]
  simp
theorem ixN_last (n : Nat) : ixN (n + 1) (-1) = some n := by
  unfold ixN
  rw [if_neg (by omega), if_pos (by omega)]
  have : ((-1 : Int) + ((n + 1 : Nat) : Int)).toNat = n := by omega
  rw [this]
theorem neg_one {sl : Sl} {ce : List Cell} : kNeg (.im (.int 1)) sl ce = .ok (.im (.int (-1))) ce := rfl
theorem runs_loop (a0 : Option Val) (ce : List Cell) : ∀ (s : List Sg) (rs : List (Sg × Nat)) (x : Option Val), rs.length + s.length < 16777216 →
    ∃ x', forD (gN 2) lp_runs_0 (s.map fun c => .str (txt [c])) [a0, some (.cell ce.length), x] (ce ++ [.lst (rs.map prD)]) = .nx [a0, some (.cell ce.length), x'] (ce ++ [.lst ((s.foldl addR rs).map prD)])
  | [], rs, x, h => ⟨x, by rw [List.map_nil, forD, List.foldl_nil]⟩
  | c :: s, rs, x, h => by
    rw [List.length_cons] at h
    obtain ⟨x', e⟩ := runs_loop a0 ce s (addR rs c) (some (.im (.str (txt [c])))) (by have := addR_len rs c; omega)
    refine ⟨x', ?_⟩
    rw [List.map_cons, forD, List.foldl_cons, ← e]
    simp only [gN, List.set_cons_zero, List.set_cons_succ]
    have hl : (rs.map prD).length < LINE := by rw [List.length_map]; show rs.length < 16777216; omega
    have ap : ∀ (d : D) (sl : Sl), kAppend (.cell ce.length) [.im d] sl (ce ++ [.lst (rs.map prD)]) = .ok (.im .non) (ce ++ [.lst (rs.map prD ++ [d])]) := fun d sl => app_ok hl
    rcases List.eq_nil_or_concat rs with rfl | ⟨i, ⟨d, n⟩, rfl⟩
    · unfold lp_runs_0
      rw [List.map_nil] at ap ⊢
      have tr : ∀ sl, kTru (.cell ce.length) sl (ce ++ [.lst []]) = .ok (.im (.bl false)) (ce ++ [.lst []]) := fun sl => by
        unfold kTru truV
        simp [asSq, asL, ce_get0]
      simp? only [-kTru, tr, ap, addR_nil]
      rfl
    · rw [List.concat_eq_append] at ap ⊢
      have tr : ∀ sl, kTru (.cell ce.length) sl (ce ++ [.lst ((i ++ [(d, n)]).map prD)]) = .ok (.im (.bl true)) (ce ++ [.lst ((i ++ [(d, n)]).map prD)]) := fun sl => by
        unfold kTru truV
        simp [asSq, asL, ce_get0]
      have ix : ∀ sl, kIx (.cell ce.length) (.im (.int (-1))) sl (ce ++ [.lst ((i ++ [(d, n)]).map prD)]) = .ok (.im (.tup [.str (txt [d]), .int n])) (ce ++ [.lst ((i ++ [(d, n)]).map prD)]) := fun sl => by
        unfold kIx
        simp only [asSq, asL, ce_get0, List.getElem?_cons_zero, List.map_append, List.map_cons, List.map_nil, atI_last]
        rfl
      have i0 : ∀ sl ce, kIx (.im (.tup [.str (txt [d]), .int n])) (.im (.int 0)) sl ce = .ok (.im (.str (txt [d]))) ce := fun sl ce => ix_tup (k := 0) rfl
      have i1 : ∀ sl ce, kIx (.im (.tup [.str (txt [d]), .int n])) (.im (.int 1)) sl ce = .ok (.im (.int n)) ce := fun sl ce => ix_tup (k := 1) rfl
      have hs : ixN ((i ++ [(d, n)]).map prD).length (-1) = some i.length := by
        rw [List.length_map, List.length_append, List.length_singleton]
        exact ixN_last _
      have st2 : ∀ y : D, ((i ++ [(d, n)]).map prD).set i.length y = i.map prD ++ [y] := fun y => by
        rw [List.map_append, List.set_append_right _ _ (by simp)]
        simp
      unfold lp_runs_0
      by_cases hd : d = c
      · subst hd
        simp? only [-kTru, tr, ix, i0, i1, neg_one, eq_txt, sSetIx, sExp, hs, st2, addR_same, ce_set0]
        simp [prD]
      · have hd' : ¬ ([d] : List Sg) = [c] := fun h => hd (List.cons.inj h).1
        simp? only [-kTru, tr, ix, i0, i1, neg_one, eq_txt, hd', hd, ap, addR_other _ _ _ _ hd]
        simp [prD]
theorem m_runs (s : List Sg) (ce : List Cell) (h : s.length < 16777216) : f_runs [.im (.str (txt s))] ce = .ok (.im (.lst ((runsF s).map prD))) ce := by
  obtain ⟨x', e⟩ := runs_loop (some (.im (.str (txt s)))) ce s [] none (by show 0 + s.length < 16777216; omega)
  rw [List.map_nil] at e
  unfold f_runs b_runs
  simp? only [txt_signs, e, finD]
  rfl
def flo (p : Sg × Nat) (x y : Nat) : List (List D) := match p.1 with
  | .g => [[.str "left", .int x, .int y, .int ((y + p.2 : Nat) : Int)]]
  | .l => [[.str "right", .int y, .int x, .int ((x + p.2 : Nat) : Int)]]
  | .e => []
def adv (p : Sg × Nat) (x y : Nat) : Nat × Nat := (if p.1 = .g then x else x + p.2, if p.1 = .l then y else y + p.2)
def flR : List (Sg × Nat) → Nat → Nat → List (List D)
  | [], _, _ => []
  | p :: ps, x, y => flo p x y ++ flR ps (adv p x y).1 (adv p x y).2
def advR : List (Sg × Nat) → Nat → Nat → Nat × Nat
  | [], x, y => (x, y)
  | p :: ps, x, y => advR ps (adv p x y).1 (adv p x y).2
theorem flR_app : ∀ (a b : List (Sg × Nat)) (x y : Nat), flR (a ++ b) x y = flR a x y ++ flR b (advR a x y).1 (advR a x y).2
  | [], b, x, y => rfl
  | p :: ps, b, x, y => by rw [List.cons_append, flR, flR, advR, flR_app ps, List.append_assoc]
theorem advR_app : ∀ (a b : List (Sg × Nat)) (x y : Nat), advR (a ++ b) x y = advR b (advR a x y).1 (advR a x y).2
  | [], b, x, y => rfl
  | p :: ps, b, x, y => by rw [List.cons_append, advR, advR, advR_app ps]
theorem flo_len (p : Sg × Nat) (x y : Nat) : (flo p x y).length ≤ 1 := by
  obtain ⟨c, n⟩ := p
  cases c <;> simp [flo]
theorem flR_len : ∀ (ps : List (Sg × Nat)) (x y : Nat), (flR ps x y).length ≤ ps.length
  | [], x, y => Nat.le_refl _
  | p :: ps, x, y => by
    have h1 := flo_len p x y
    have h2 := flR_len ps (adv p x y).1 (adv p x y).2
    rw [flR, List.length_append, List.length_cons]
    omega
theorem addR_adv (rs : List (Sg × Nat)) (c : Sg) : advR (addR rs c) 0 0 = adv (c, 1) (advR rs 0 0).1 (advR rs 0 0).2 := by
  rcases List.eq_nil_or_concat rs with rfl | ⟨i, ⟨d, n⟩, rfl⟩
  · rfl
  · rw [List.concat_eq_append]
    by_cases h : d = c
    · subst h
      rw [addR_same, advR_app, advR_app]
      cases d <;> simp [advR, adv] <;> omega
    · rw [addR_other _ _ _ _ h, advR_app]
      rfl
theorem runs_adv (s : List Sg) : advR (runsF s) 0 0 = (lefts s, rights s) := by
  induction hn : s.length generalizing s with
  | zero =>
    rw [List.eq_nil_of_length_eq_zero hn]
    rfl
  | succ k ih =>
    rcases List.eq_nil_or_concat s with rfl | ⟨p, c, rfl⟩
    · cases hn
    · rw [List.concat_eq_append] at hn ⊢
      rw [runs_snoc, addR_adv, ih p (by simp at hn; omega), lefts_app, rights_app, lefts_cons, rights_cons]
      cases c <;> simp [adv, lefts, rights]
theorem runs_end : ∀ (s : List Sg), s ≠ [] → ∃ i n, runsF s = i ++ [(s.getLast?.getD .e, n)] := by
  intro s hs
  rcases List.eq_nil_or_concat s with rfl | ⟨p, c, rfl⟩
  · exact absurd rfl hs
  · rw [List.concat_eq_append, runs_snoc]
    rcases List.eq_nil_or_concat (runsF p) with e | ⟨i, ⟨d, n⟩, e⟩
    · rw [e]
      exact ⟨[], 1, by simp [addR_nil]⟩
    · rw [e, List.concat_eq_append]
      by_cases h : d = c
      · subst h
        rw [addR_same]
        exact ⟨i, n + 1, by simp⟩
      · rw [addR_other _ _ _ _ h]
        exact ⟨i ++ [(d, n)], 1, by simp⟩
theorem fl_loop (a0 : Option Val) (ce : List Cell) : ∀ (rs : List (Sg × Nat)) (x y : Nat) (out : List D) (x3 x4 : Option Val), out.length + rs.length < 16777216 →
    ∃ x' y' z3 z4, gforD (gT [gN 3, gN 4]) (lp_Record_floods_0 ce) (rs.map prD) out [a0, some (.im (.int x)), some (.im (.int y)), x3, x4] ce = (out ++ (flR rs x y).map .tup, .nx [a0, x', y', z3, z4] ce)
  | [], x, y, out, x3, x4, h => ⟨_, _, x3, x4, by rw [List.map_nil, gforD, flR, List.map_nil, List.append_nil]⟩
  | (c, n) :: rs, x, y, out, x3, x4, h => by
    rw [List.length_cons] at h
    have hl := flo_len (c, n) x y
    obtain ⟨x', y', z3, z4, e⟩ := fl_loop a0 ce rs (adv (c, n) x y).1 (adv (c, n) x y).2 (out ++ (flo (c, n) x y).map .tup) (some (.im (.str (txt [c])))) (some (.im (.int n))) (by rw [List.length_append, List.length_map]; omega)
    refine ⟨x', y', z3, z4, ?_⟩
    rw [List.append_assoc, ← List.map_append] at e
    rw [List.map_cons, gforD, flR, ← e]
    have lo : out.length < LINE := by show out.length < 16777216; omega
    have c1 : (x : Int) + (n : Int) = ((x + n : Nat) : Int) := by omega
    have c2 : (y : Int) + (n : Int) = ((y + n : Nat) : Int) := by omega
    have tk : ce.take ce.length = ce := List.take_length
    simp only [prD, gT, gL, gN, List.set_cons_zero, List.set_cons_succ, Option.bind_some]
    unfold lp_Record_floods_0
    cases c <;> simp? only [gSeq, gIf, gPl, gNil, zYld, sl1, sl2, sl3, eq_txt, lo, tk, sAug, kAddI, flo, adv, c1, c2]
    all_goals (try simp only [List.map_nil, List.append_nil, List.map_cons])
    all_goals (try rfl)
section
variable {sl : Sl} {ce : List Cell}
theorem m_floods (s : List Sg) (h : s.length < 16777216) : mkG 5 (b_Record_floods ce) [.im (recD s)] ce = some ((flR (runsF s) 0 0).map .tup, ce) := by
  obtain ⟨x', y', z3, z4, e⟩ := fl_loop (some (.im (recD s))) ce (runsF s) 0 0 [] none none (by have := runs_len s; simp only [List.length_nil]; omega)
  rw [List.nil_append] at e
  have hz : ((0 : Nat) : Int) = 0 := rfl
  rw [hz] at e
  have mr := fun ce => m_runs s ce h
  unfold mkG b_Record_floods
  simp? only [gSeq, gPl, gNil, gFor, fld_s, mr, e, gEnd, List.take_length]
theorem lc_floods {i : Nat} {f : DE} (s : List Sg) (h : s.length < 16777216) (hf : f sl ce = .ok (.im (recD s)) ce) (hi : i < sl.length) : eSettle (eLcIM c_Record 5 i b_Record_floods f) sl ce = .ok (.im (.lst ((flR (runsF s) 0 0).map .tup))) ce := by
  have hl : ((flR (runsF s) 0 0).map D.tup).length < LINE := by
    rw [List.length_map]
    have h1 := flR_len (runsF s) 0 0
    have h2 := runs_len s
    show _ < 16777216
    omega
  unfold eSettle eLcIM
  simp only [eBind, hf, isC_s, plainV, hi, m_floods s h, hl, and_self, if_true, ce_get0, List.getElem?_cons_zero, ce_set0, ce_take]
end
end ZZ
set_option Elab.async false
set_option linter.all false
set_option maxRecDepth 100000
set_option maxHeartbeats 4000000
namespace ZZ
open PySem PySem.Spec L2
section
variable {sl : Sl} {ce : List Cell}
theorem appR_ok {rows : List (List D)} {a b c d : D} (h : rows.length < LINE) : kAppR (.cell ce.length) [.im a, .im b, .im c, .im d] sl (ce ++ [.rws rows]) = .ok (.im .non) (ce ++ [.rws (rows ++ [[a, b, c, d]])]) := by
  unfold kAppR
  simp only [ce_get0, List.getElem?_cons_zero, ims, Option.map_some]
  rw [if_pos ⟨h, by show 4 ≤ LINE; decide⟩, ce_set0]
  rfl
theorem tyR_ok1 {rows : List (List D)} : tyR (ce ++ [.rws rows]) (.cell ce.length) = true := by
  unfold tyR
  simp only [ce_get0, List.getElem?_cons_zero]
theorem ixR_ok {rows : List (List D)} {a b c d : D} : kIxR 3 (.cell ce.length) (.im (.int (-1))) sl (ce ++ [.rws (rows ++ [[a, b, c, d]])]) = .ok (.im d) (ce ++ [.rws (rows ++ [[a, b, c, d]])]) := by
  unfold kIxR
  have e : atI [a, b, c, d] 3 = some d := rfl
  simp only [ce_get0, List.getElem?_cons_zero, atI_last, e]
theorem only_end {c : Cell} (h : noRws ce = true) : only ce.length (ce ++ [c]) = true := by
  unfold only
  rw [ce_set0]
  unfold noRws at h ⊢
  rw [List.all_append, h]
  rfl
theorem setRow_ok {rows : List (List D)} {a b c d d' : D} {fv fo fi : DE} (h : noRws ce = true) (hv : fv sl (ce ++ [.rws (rows ++ [[a, b, c, d]])]) = .ok (.im d') (ce ++ [.rws (rows ++ [[a, b, c, d]])])) (ho : fo sl (ce ++ [.rws (rows ++ [[a, b, c, d]])]) = .ok (.cell ce.length) (ce ++ [.rws (rows ++ [[a, b, c, d]])]))
    (hi : fi sl (ce ++ [.rws (rows ++ [[a, b, c, d]])]) = .ok (.im (.int (-1))) (ce ++ [.rws (rows ++ [[a, b, c, d]])])) : sSetRow fo fi 3 fv sl (ce ++ [.rws (rows ++ [[a, b, c, d]])]) = .nx sl (ce ++ [.rws (rows ++ [[a, b, c, d']])]) := by
  unfold sSetRow sExp
  simp only [hv, ho, hi]
  have e1 : ixN (rows ++ [[a, b, c, d]]).length (-1) = some rows.length := by rw [List.length_append, List.length_singleton]; exact ixN_last _
  have e2 : (rows ++ [[a, b, c, d]])[rows.length]? = some [a, b, c, d] := by simp
  have e3 : ixN [a, b, c, d].length 3 = some 3 := rfl
  simp only [ce_get0, List.getElem?_cons_zero, e1, e2, e3, only_end h, if_true, ce_set0, List.set_cons_zero]
  rw [List.set_append_right _ _ (Nat.le_refl _), Nat.sub_self]
  rfl
/-- the last row is of the run of c -/
theorem fl_last (i : List (Sg × Nat)) (c : Sg) (n : Nat) (hc : c ≠ .e) : ∃ (rows : List (List D)) (a b e : D) (k : Nat), flR (i ++ [(c, n)]) 0 0 = rows ++ [[a, b, e, .int ((k + n : Nat) : Int)]] ∧ ∀ m, flR (i ++ [(c, m)]) 0 0 = rows ++ [[a, b, e, .int ((k + m : Nat) : Int)]] := by
  cases c with
  | e => exact absurd rfl hc
  | g => exact ⟨flR i 0 0, _, _, _, (advR i 0 0).2, by rw [flR_app]; rfl, fun m => by rw [flR_app]; rfl⟩
  | l => exact ⟨flR i 0 0, _, _, _, (advR i 0 0).1, by rw [flR_app]; rfl, fun m => by rw [flR_app]; rfl⟩
theorem fl_e (i : List (Sg × Nat)) (n m : Nat) : flR (i ++ [(.e, n)]) 0 0 = flR (i ++ [(.e, m)]) 0 0 := by rw [flR_app, flR_app]; rfl
theorem due_loop (hn : noRws ce = true) (s : List Sg) (hs : s.length < 1000) (x7 : Option Val) : ∀ (t p : List Sg) (x4 x5 x6 : Option Val), s = p ++ t →
    ∃ y4 y5 y6, forD (gN 4) lp__law_due_0 ((List.range' p.length t.length).map fun (i : Nat) => D.int (i : Int)) [some (.im (.str (txt s))), some (.cell ce.length), some (.im (.int (lefts p : Nat))), some (.im (.int (rights p : Nat))), x4, x5, x6, x7] (ce ++ [.rws (flR (runsF p) 0 0)]) =
      .nx [some (.im (.str (txt s))), some (.cell ce.length), some (.im (.int (lefts s : Nat))), some (.im (.int (rights s : Nat))), y4, y5, y6, x7] (ce ++ [.rws (flR (runsF s) 0 0)])
  | [], p, x4, x5, x6, e => by
    rw [List.append_nil] at e
    subst e
    exact ⟨x4, x5, x6, by rw [List.length_nil, List.range'_zero, List.map_nil, forD]⟩
  | c :: t, p, x4, x5, x6, e => by
    have hp : s[p.length]? = some c := by rw [e]; simp
    have hpl : p.length < 1000 := by
      have := congrArg List.length e
      rw [List.length_append, List.length_cons] at this
      omega
    obtain ⟨beg, hb0, hb1, hb2⟩ : ∃ beg : Bool, (∀ sl ce2, eOr (eBin kEq (eV 4) (eC (.int 0))) (eBin kNe (eBin kIx (eV 0) (eBin kSub (eV 4) (eC (.int 1)))) (eV 5)) (some (.im (.str (txt s))) :: some (.cell ce.length) :: some (.im (.int (lefts p : Nat))) :: some (.im (.int (rights p : Nat))) :: some (.im (.int (p.length : Nat))) :: some (.im (.str (txt [c]))) :: sl) ce2 = .ok (.im (.bl beg)) ce2) ∧
        (beg = true → flR (runsF (p ++ [c])) 0 0 = flR (runsF p) 0 0 ++ flo (c, 1) (lefts p) (rights p)) ∧ (beg = false → ∃ i n, runsF p = i ++ [(c, n)] ∧ runsF (p ++ [c]) = i ++ [(c, n + 1)]) := by
      rcases List.eq_nil_or_concat p with rfl | ⟨p', d, rfl⟩
      · refine ⟨true, fun sl ce2 => ?_, fun _ => ?_, fun h => by cases h⟩
        · simp? only [-kAdd, eq_int, List.length_nil]
          rfl
        · rw [runs_snoc]
          show flR [(c, 1)] 0 0 = [] ++ flo (c, 1) 0 0
          rw [flR, flR, List.append_nil, List.nil_append]
      · rw [List.concat_eq_append] at e hp hpl ⊢
        have hq : s[p'.length]? = some d := by rw [e]; simp
        have e1 : ¬ (((p' ++ [d]).length : Nat) : Int) = 0 := by rw [List.length_append, List.length_singleton]; omega
        have e2 : (((p' ++ [d]).length : Nat) : Int) - 1 = ((p'.length : Nat) : Int) := by rw [List.length_append, List.length_singleton]; omega
        have ix := fun sl ce2 => ix_txt (sl := sl) (ce := ce2) s p'.length d hq (by omega)
        obtain ⟨i, n, hr⟩ := runs_end (p' ++ [d]) (by simp)
        have hd : (p' ++ [d]).getLast?.getD .e = d := by simp
        rw [hd] at hr
        have ha := runs_adv (p' ++ [d])
        by_cases hc : d = c
        · subst hc
          refine ⟨false, fun sl ce2 => ?_, (fun h => by cases h), fun _ => ⟨i, n, hr, by rw [runs_snoc, hr, addR_same]⟩⟩
          simp? only [-kAdd, eq_int, e1, e2, ix, eq_txt]
        · refine ⟨true, fun sl ce2 => ?_, fun _ => ?_, fun h => by cases h⟩
          · have hc' : ¬ ([d] : List Sg) = [c] := fun h => hc (List.cons.inj h).1
            simp? only [-kAdd, eq_int, e1, e2, ix, eq_txt, hc']
          · rw [runs_snoc, hr, addR_other _ _ _ _ hc, flR_app, ← hr, ha]
            show _ ++ flR [(c, 1)] _ _ = _
            rw [flR, flR, List.append_nil]
    have ih := fun x4 x5 x6 => due_loop hn s hs x7 t (p ++ [c]) x4 x5 x6 (by rw [e]; simp)
    obtain ⟨y4, y5, y6, ei⟩ := ih (some (.im (.int (p.length : Nat)))) (some (.im (.str (txt [c])))) (some (.im (.bl beg)))
    refine ⟨y4, y5, y6, ?_⟩
    rw [List.length_cons, List.range'_succ, List.map_cons, forD]
    rw [List.length_append, List.length_singleton, lefts_app, rights_app, lefts_cons, rights_cons] at ei
    simp only [gN, List.set_cons_zero, List.set_cons_succ]
    have ix := fun sl ce2 => ix_txt (sl := sl) (ce := ce2) s p.length c hp (by omega)
    have hl : (flR (runsF p) 0 0).length < LINE := by
      have h1 := flR_len (runsF p) 0 0
      have h2 := runs_len p
      show _ < 16777216
      omega
    have ln : lefts [] = 0 := rfl
    have rn : rights [] = 0 := rfl
    rw [ln, rn] at ei
    have ap : ∀ (a b c d : D) sl, kAppR (.cell ce.length) [.im a, .im b, .im c, .im d] sl (ce ++ [.rws (flR (runsF p) 0 0)]) = .ok (.im .non) (ce ++ [.rws (flR (runsF p) 0 0 ++ [[a, b, c, d]])]) := fun a b c d sl => appR_ok hl
    have ai : ∀ (i j : Int) sl ce, kAdd (.im (.int i)) (.im (.int j)) sl ce = .ok (.im (.int (i + j))) ce := fun i j sl ce => rfl
    have c1 : ((lefts p : Nat) : Int) + 1 = ((lefts p + (0 + 1) : Nat) : Int) := by omega
    have c2 : ((rights p : Nat) : Int) + 1 = ((rights p + (0 + 1) : Nat) : Int) := by omega
    have c3 : ((lefts p : Nat) : Int) + 0 = ((lefts p + (0 + 0) : Nat) : Int) := by omega
    have c4 : ((rights p : Nat) : Int) + 0 = ((rights p + (0 + 0) : Nat) : Int) := by omega
    rw [← ei]
    simp only [eBin] at hb0
    unfold lp__law_due_0
    cases beg with
    | true =>
      rw [hb1 rfl]
      cases c with
      | e =>
        simp? only [-kAdd, -eOr, ix, hb0, sl1, sl2, sl3, eq_txt, ai, flo, c1, c2, c3, c4]
        try simp
      | g =>
        have sr : ∀ (x y : Int) sl, sSetRow (eV 1) (eUn kNeg (eC (.int 1))) 3 (eBin kAdd (eBin (kIxR 3) (eV 1) (eUn kNeg (eC (.int 1)))) (eC (.int 1))) (some (.im (.str (txt s))) :: some (.cell ce.length) :: sl) (ce ++ [.rws (flR (runsF p) 0 0 ++ [[.str "left", .int x, .int y, .int y]])]) =
            .nx (some (.im (.str (txt s))) :: some (.cell ce.length) :: sl) (ce ++ [.rws (flR (runsF p) 0 0 ++ [[.str "left", .int x, .int y, .int (y + 1)]])]) := fun x y sl =>
          setRow_ok hn (by simp? only [-kAdd, neg_one, ixR_ok, ai]) rfl rfl
        simp only [eBin, eUn] at sr
        simp? only [-kAdd, -eOr, ix, hb0, sl1, sl2, sl3, eq_txt, ai, flo, eAppR, tyR_ok1, ap, sr, c1, c2, c3, c4]
        try simp
      | l =>
        have sr : ∀ (x y : Int) sl, sSetRow (eV 1) (eUn kNeg (eC (.int 1))) 3 (eBin kAdd (eBin (kIxR 3) (eV 1) (eUn kNeg (eC (.int 1)))) (eC (.int 1))) (some (.im (.str (txt s))) :: some (.cell ce.length) :: sl) (ce ++ [.rws (flR (runsF p) 0 0 ++ [[.str "right", .int x, .int y, .int y]])]) =
            .nx (some (.im (.str (txt s))) :: some (.cell ce.length) :: sl) (ce ++ [.rws (flR (runsF p) 0 0 ++ [[.str "right", .int x, .int y, .int (y + 1)]])]) := fun x y sl =>
          setRow_ok hn (by simp? only [-kAdd, neg_one, ixR_ok, ai]) rfl rfl
        simp only [eBin, eUn] at sr
        simp? only [-kAdd, -eOr, ix, hb0, sl1, sl2, sl3, eq_txt, ai, flo, eAppR, tyR_ok1, ap, sr, c1, c2, c3, c4]
        try simp
    | false =>
      obtain ⟨i, n, hr1, hr2⟩ := hb2 rfl
      rw [hr2]
      by_cases hc : c = .e
      · subst hc
        rw [hr1, fl_e i (n + 1) n]
        simp? only [-kAdd, -eOr, ix, hb0, sl1, sl2, sl3, eq_txt, ai, c1, c2, c3, c4]
        try simp
      · obtain ⟨rows, a, b, d, k, f1, f2⟩ := fl_last i c n hc
        rw [hr1, f1, f2 (n + 1)]
        have sr : ∀ sl, sSetRow (eV 1) (eUn kNeg (eC (.int 1))) 3 (eBin kAdd (eBin (kIxR 3) (eV 1) (eUn kNeg (eC (.int 1)))) (eC (.int 1))) (some (.im (.str (txt s))) :: some (.cell ce.length) :: sl) (ce ++ [.rws (rows ++ [[a, b, d, .int ((k + n : Nat) : Int)]])]) =
            .nx (some (.im (.str (txt s))) :: some (.cell ce.length) :: sl) (ce ++ [.rws (rows ++ [[a, b, d, .int ((k + (n + 1) : Nat) : Int)]])]) := fun sl => by
          have e5 : ((k + n : Nat) : Int) + 1 = ((k + (n + 1) : Nat) : Int) := by omega
          exact setRow_ok hn (by simp? only [-kAdd, neg_one, ixR_ok, ai, e5]) rfl rfl
        simp only [eBin, eUn] at sr
        cases c with
        | e => exact absurd rfl hc
        | g =>
          simp? only [-kAdd, -eOr, ix, hb0, sl1, sl2, sl3, eq_txt, ai, sr, c1, c2, c3, c4]
          try simp
        | l =>
          simp? only [-kAdd, -eOr, ix, hb0, sl1, sl2, sl3, eq_txt, ai, sr, c1, c2, c3, c4]
          try simp
theorem flo_four (p : Sg × Nat) (x y : Nat) : ∀ r ∈ flo p x y, ∃ a b c d, r = [a, b, c, d] := by
  obtain ⟨c, n⟩ := p
  cases c <;> simp [flo]
theorem flR_four : ∀ (ps : List (Sg × Nat)) (x y : Nat), ∀ r ∈ flR ps x y, ∃ a b c d, r = [a, b, c, d]
  | [], x, y, r, h => by cases h
  | p :: ps, x, y, r, h => by
    rw [flR] at h
    rcases List.mem_append.mp h with h | h
    · exact flo_four _ _ _ r h
    · exact flR_four ps _ _ r h
theorem m_due (hn : noRws ce = true) (s : List Sg) (hs : s.length < 1000) : f__law_due [.im (.str (txt s))] ce = .ok (.im (.lst ((flR (runsF s) 0 0).map .tup))) ce := by
  obtain ⟨y4, y5, y6, e⟩ := due_loop hn s hs none s [] none none none rfl
  have kr := rng1 s.length (by omega)
  rw [List.length_nil, ← List.range_eq_range'] at e
  have ez : ((lefts [] : Nat) : Int) = 0 := rfl
  have ez2 : ((rights [] : Nat) : Int) = 0 := rfl
  rw [ez, ez2] at e
  have lt : s.length ≤ 16777216 := by omega
  have hl : (flR (runsF s) 0 0).length < 16777216 := by
    have h1 := flR_len (runsF s) 0 0
    have h2 := runs_len s
    omega
  have hd : (ce ++ [Cell.rws (flR (runsF s) 0 0)]).set ce.length Cell.dead = ce ++ [.dead] := by rw [ce_set0]; rfl
  have lc := fun (a0 a2 a3 a4 a5 a6 : Option Val) => lc_map (own := [7]) (fi := iExp (eV 1) itL) (g := gN 7) (f := el__law_due_1) (sl := [a0, some (.im (.lst ((flR (runsF s) 0 0).map .lst))), a2, a3, a4, a5, a6, none]) (ce := ce ++ [.dead]) (flR (runsF s) 0 0) .lst .tup (by simp? only []) hl (fun r hr acc => ⟨_, rfl, by
    obtain ⟨a, b, c, d, rfl⟩ := flR_four _ _ _ r hr
    unfold el__law_due_1
    have i0 : ∀ sl ce, kIx (.im (.lst [a, b, c, d])) (.im (.int 0)) sl ce = .ok (.im a) ce := fun sl ce => ix_lst (k := 0) rfl
    have i1 : ∀ sl ce, kIx (.im (.lst [a, b, c, d])) (.im (.int 1)) sl ce = .ok (.im b) ce := fun sl ce => ix_lst (k := 1) rfl
    have i2 : ∀ sl ce, kIx (.im (.lst [a, b, c, d])) (.im (.int 2)) sl ce = .ok (.im c) ce := fun sl ce => ix_lst (k := 2) rfl
    have i3 : ∀ sl ce, kIx (.im (.lst [a, b, c, d])) (.im (.int 3)) sl ce = .ok (.im d) ce := fun sl ce => ix_lst (k := 3) rfl
    simp? only [wipeD, i0, i1, i2, i3]⟩)
  have fr : ∀ (g : DSt) (a0 a2 a3 a4 a5 a6 a7 : Option Val), frzR 1 g [a0, some (.cell ce.length), a2, a3, a4, a5, a6, a7] (ce ++ [.rws (flR (runsF s) 0 0)]) = g [a0, some (.im (.lst ((flR (runsF s) 0 0).map .lst))), a2, a3, a4, a5, a6, a7] (ce ++ [.dead]) := fun g a0 a2 a3 a4 a5 a6 a7 => by
    unfold frzR
    simp only [List.getElem?_cons_succ, List.getElem?_cons_zero, ce_get0, only_end hn, if_true, hd, List.set_cons_succ, List.set_cons_zero]
  have rn : runsF [] = [] := rfl
  rw [rn, flR] at e
  unfold f__law_due b__law_due
  simp? only [eLstR, txt_len, lt, kr, e, fr, lc, finD]
end
end ZZ
set_option Elab.async false
set_option linter.all false
set_option maxRecDepth 100000
set_option maxHeartbeats 4000000
namespace ZZ
open PySem PySem.Spec L2
section
variable {sl : Sl} {ce : List Cell}
theorem m_whole (i : Int) : f__law_whole [.im (.int i)] ce = .ok (.im (.bl true)) ce := by
  have h1 : ∀ sl ce, kIsi i_int (.im (.int i)) sl ce = .ok (.im (.bl true)) ce := fun _ _ => rfl
  have h2 : ∀ sl ce, kIsi i_bool (.im (.int i)) sl ce = .ok (.im (.bl false)) ce := fun _ _ => rfl
  unfold f__law_whole b__law_whole
  simp? only [h1, h2, finD, List.take_length]
end
end ZZ
set_option Elab.async false
set_option linter.all false
set_option maxRecDepth 100000
set_option maxHeartbeats 4000000
namespace ZZ
open PySem PySem.Spec L2
section
variable {sl : Sl} {ce : List Cell}
def rowF (w : Bool) (a b c : Nat) : List D := [.str (if w then "left" else "right"), .int a, .int b, .int c]
theorem flo_row (p : Sg × Nat) (x y : Nat) : ∀ r ∈ flo p x y, ∃ w a b c, r = rowF w a b c := by
  obtain ⟨c, n⟩ := p
  cases c
  · intro r h
    rw [flo, List.mem_singleton] at h
    exact ⟨false, y, x, x + n, h⟩
  · intro r h
    cases h
  · intro r h
    rw [flo, List.mem_singleton] at h
    exact ⟨true, x, y, y + n, h⟩
theorem flR_row : ∀ (ps : List (Sg × Nat)) (x y : Nat), ∀ r ∈ flR ps x y, ∃ w a b c, r = rowF w a b c
  | [], x, y, r, h => by cases h
  | p :: ps, x, y, r, h => by
    rw [flR] at h
    rcases List.mem_append.mp h with h | h
    · exact flo_row _ _ _ r h
    · exact flR_row ps _ _ r h
def oth : List D → List D
  | .str s :: r => .str (if s = "left" then "right" else "left") :: r
  | r => r
theorem ne_lr : ¬ ("right" : Str) = "left" := by decide +kernel
theorem oth_row (w : Bool) (a b c : Nat) : oth (rowF w a b c) = rowF (!w) a b c := by
  cases w
  · simp [rowF, oth, ne_lr]
  · simp [rowF, oth]
def swq (p : Sg × Nat) : Sg × Nat := (swp p.1, p.2)
theorem addR_sw (rs : List (Sg × Nat)) (c : Sg) : addR (rs.map swq) (swp c) = (addR rs c).map swq := by
  rcases List.eq_nil_or_concat rs with rfl | ⟨i, ⟨d, n⟩, rfl⟩
  · rfl
  · rw [List.concat_eq_append, List.map_append]
    by_cases h : d = c
    · subst h
      rw [addR_same, List.map_append]
      exact addR_same (i.map swq) (swp d) n
    · have h' : swp d ≠ swp c := fun e => h (by rw [← swp_swp d, e, swp_swp])
      rw [addR_other _ _ _ _ h, List.map_append, List.map_append]
      exact addR_other (i.map swq) (swp d) (swp c) n h'
theorem runs_sw : ∀ (s : List Sg) (rs : List (Sg × Nat)), (swap s).foldl addR (rs.map swq) = (s.foldl addR rs).map swq
  | [], rs => rfl
  | c :: s, rs => by
    show (swap s).foldl addR (addR (rs.map swq) (swp c)) = _
    rw [addR_sw, runs_sw s, List.foldl_cons]
theorem flR_sw : ∀ (rs : List (Sg × Nat)) (x y : Nat), flR (rs.map swq) y x = (flR rs x y).map oth
  | [], x, y => rfl
  | (c, n) :: rs, x, y => by
    have ih := flR_sw rs (adv (c, n) x y).1 (adv (c, n) x y).2
    have e1 : (adv (swq (c, n)) y x) = ((adv (c, n) x y).2, (adv (c, n) x y).1) := by cases c <;> rfl
    have e2 : flo (swq (c, n)) y x = (flo (c, n) x y).map oth := by
      cases c
      · simp [flo, swq, swp, oth, ne_lr]
      · rfl
      · simp [flo, swq, swp, oth]
    rw [List.map_cons, flR, flR, List.map_append, e1, e2, ih]
theorem fl_swap (s : List Sg) : flR (runsF (swap s)) 0 0 = (flR (runsF s) 0 0).map oth := by
  have := runs_sw s []
  rw [List.map_nil] at this
  unfold runsF
  rw [this, flR_sw]
theorem str_lr (w : Bool) : PyData.strOk (if w then ("left" : Str) else "right") = true := by cases w <;> decide +kernel
theorem str_r : PyData.strOk ("right" : Str) = true := by decide +kernel
theorem str_l : PyData.strOk ("left" : Str) = true := by decide +kernel
theorem m_other (w : Bool) (a b c : Nat) : f__law_other [.im (.tup (rowF w a b c))] ce = .ok (.im (.tup (oth (rowF w a b c)))) ce := by
  have i0 : ∀ sl ce, kIx (.im (.tup (rowF w a b c))) (.im (.int 0)) sl ce = .ok (.im (.str (if w then "left" else "right"))) ce := fun sl ce => ix_tup (k := 0) rfl
  have i1 : ∀ sl ce, kIx (.im (.tup (rowF w a b c))) (.im (.int 1)) sl ce = .ok (.im (.int a)) ce := fun sl ce => ix_tup (k := 1) rfl
  have i2 : ∀ sl ce, kIx (.im (.tup (rowF w a b c))) (.im (.int 2)) sl ce = .ok (.im (.int b)) ce := fun sl ce => ix_tup (k := 2) rfl
  have i3 : ∀ sl ce, kIx (.im (.tup (rowF w a b c))) (.im (.int 3)) sl ce = .ok (.im (.int c)) ce := fun sl ce => ix_tup (k := 3) rfl
  have eq := fun (sl : Sl) (ce : List Cell) => eq_str (neg := false) (sl := sl) (ce := ce) (str_lr w) str_l
  rw [oth_row]
  unfold f__law_other b__law_other
  cases w
  · have eq' : ∀ sl ce, kEqG false (.im (.str "right")) (.im (.str "left")) sl ce = .ok (.im (.bl false)) ce := fun sl ce => by
      rw [eq_str str_r str_l]
      simp [ne_lr]
    simp only [Bool.false_eq_true, if_false] at i0
    simp? only [i0, i1, i2, i3, eq', finD, List.take_length]
    rfl
  · have eq' : ∀ sl ce, kEqG false (.im (.str "left")) (.im (.str "left")) sl ce = .ok (.im (.bl true)) ce := fun sl ce => by
      rw [eq_str str_l str_l]
      simp
    simp only [if_true] at i0
    simp? only [i0, i1, i2, i3, eq', finD, List.take_length]
    rfl
theorem row_ok (w : Bool) (a b c : Nat) : okDs 58 (rowF w a b c) = true := by simp [rowF, okDs, okD, str_lr w]
theorem rows_okF : ∀ (ps : List (Sg × Nat)) (x y : Nat), okD 60 (.lst ((flR ps x y).map .tup)) = true := fun ps x y => by
  rw [okD]
  refine okDs_all fun d hd => ?_
  obtain ⟨r, hr, rfl⟩ := List.mem_map.mp hd
  obtain ⟨w, a, b, c, rfl⟩ := flR_row _ _ _ r hr
  rw [okD]
  exact row_ok w a b c
theorem m_right (s : List Sg) (h : s.length < 16777216) : f__law_right [.im (recD s), .im (.lst ((flR (runsF s) 0 0).map .tup))] ce = .ok (.im (.bl true)) ce := by
  have lc := fun (a1 a2 a3 : Option Val) => lc_floods (ce := ce) (i := 3) (f := eV 0) (sl := [some (.im (recD s)), a1, a2, a3]) s h rfl (by show 3 < 4; decide)
  have loop := forD_all (i := 3) (body := lp__law_right_0) (sl := [some (.im (recD s)), some (.im (.lst ((flR (runsF s) 0 0).map .tup))), some (.im (.lst ((flR (runsF s) 0 0).map .tup))), none]) (ce := ce) (v := .im (.bl false)) D.tup (fun _ => true) (flR (runsF s) 0 0) none (fun r hr => ⟨fun _ => by
    obtain ⟨w, a, b, c, rfl⟩ := flR_row _ _ _ r hr
    have i0 : ∀ sl ce, kIx (.im (.tup (rowF w a b c))) (.im (.int 0)) sl ce = .ok (.im (.str (if w then "left" else "right"))) ce := fun sl ce => ix_tup (k := 0) rfl
    have i1 : ∀ sl ce, kIx (.im (.tup (rowF w a b c))) (.im (.int 1)) sl ce = .ok (.im (.int a)) ce := fun sl ce => ix_tup (k := 1) rfl
    have i2 : ∀ sl ce, kIx (.im (.tup (rowF w a b c))) (.im (.int 2)) sl ce = .ok (.im (.int b)) ce := fun sl ce => ix_tup (k := 2) rfl
    have i3 : ∀ sl ce, kIx (.im (.tup (rowF w a b c))) (.im (.int 3)) sl ce = .ok (.im (.int c)) ce := fun sl ce => ix_tup (k := 3) rfl
    have it : ∀ sl ce, kIsi i_tuple (.im (.tup (rowF w a b c))) sl ce = .ok (.im (.bl true)) ce := fun sl ce => rfl
    have is : ∀ (z : Str) sl ce, kIsi i_str (.im (.str z)) sl ce = .ok (.im (.bl true)) ce := fun z sl ce => rfl
    have kl : ∀ sl ce, kLen [.im (.tup (rowF w a b c))] sl ce = .ok (.im (.int 4)) ce := fun sl ce => rfl
    unfold lp__law_right_0
    simp? only [-kLen, it, kl, is, i0, i1, i2, i3, m_whole, eq_int], fun h => by cases h⟩)
  obtain ⟨y', e1, _⟩ := loop
  have e1 := e1 (by simp)
  simp only [List.set_cons_succ, List.set_cons_zero] at e1
  have q := fun (sl : Sl) (ce : List Cell) => eq_gd (neg := false) (sl := sl) (ce := ce) (rows_okF (runsF s) 0 0) (rows_okF (runsF s) 0 0)
  rw [eqD_refl _ _ (rows_okF (runsF s) 0 0)] at q
  unfold f__law_right b__law_right
  simp? only [lc, e1, q, finD, List.take_length]
theorem rows_loopL (a0 : Option Val) (ce : List Cell) : ∀ (s : List Sg) (l r : Nat) (acc : List D) (x : Option Val), acc.length + s.length < LINE →
    ∃ l' r' x', forD (gN 4) lp__law_rows_0 (s.map fun c => .str (txt [c])) [a0, some (.cell ce.length), some (.im (.int (l : Nat))), some (.im (.int (r : Nat))), x] (ce ++ [.lst acc]) =
      .nx [a0, some (.cell ce.length), l', r', x'] (ce ++ [.lst (acc ++ rowsD l r s)])
  | [], l, r, acc, x, h => ⟨_, _, x, by rw [List.map_nil, forD, rowsD, List.append_nil]⟩
  | c :: s, l, r, acc, x, h => by
    rw [List.length_cons] at h
    have hl : acc.length < LINE := by omega
    have ih := fun l r acc h => rows_loopL a0 ce s l r acc (some (.im (.str (txt [c])))) h
    have c1 : ((l : Int) + 1) = ((l + 1 : Nat) : Int) := rfl
    have c2 : ((r : Int) + 1) = ((r + 1 : Nat) : Int) := rfl
    rw [List.map_cons, forD]
    simp only [gN, List.set_cons_zero, List.set_cons_succ]
    cases c with
    | l =>
      obtain ⟨l', r', x', e⟩ := ih (l + 1) r (acc ++ [.tup [.int l, .non]]) (by rw [List.length_append, List.length_singleton]; omega)
      refine ⟨l', r', x', ?_⟩
      rw [rowsD, show acc ++ D.tup [.int l, .non] :: rowsD (l + 1) r s = acc ++ [.tup [.int l, .non]] ++ rowsD (l + 1) r s by simp, ← e]
      unfold lp__law_rows_0
      simp? only [sl1, sl2, sl3, eq_txt, app_ok hl, c1, c2, Int.add_zero]
      try simp
    | e =>
      obtain ⟨l', r', x', e⟩ := ih (l + 1) (r + 1) (acc ++ [.tup [.int l, .int r]]) (by rw [List.length_append, List.length_singleton]; omega)
      refine ⟨l', r', x', ?_⟩
      rw [rowsD, show acc ++ D.tup [.int l, .int r] :: rowsD (l + 1) (r + 1) s = acc ++ [.tup [.int l, .int r]] ++ rowsD (l + 1) (r + 1) s by simp, ← e]
      unfold lp__law_rows_0
      simp? only [sl1, sl2, sl3, eq_txt, app_ok hl, c1, c2, Int.add_zero]
      try simp
    | g =>
      obtain ⟨l', r', x', e⟩ := ih l (r + 1) (acc ++ [.tup [.non, .int r]]) (by rw [List.length_append, List.length_singleton]; omega)
      refine ⟨l', r', x', ?_⟩
      rw [rowsD, show acc ++ D.tup [.non, .int r] :: rowsD l (r + 1) s = acc ++ [.tup [.non, .int r]] ++ rowsD l (r + 1) s by simp, ← e]
      unfold lp__law_rows_0
      simp? only [sl1, sl2, sl3, eq_txt, app_ok hl, c1, c2, Int.add_zero]
      try simp
theorem m_lrows (s : List Sg) (h : s.length < 16777216) : f__law_rows [.im (.str (txt s))] ce = .ok (.im (.lst (rowsD 0 0 s))) ce := by
  obtain ⟨l', r', x', e⟩ := rows_loopL (some (.im (.str (txt s)))) ce s 0 0 [] none (by show 0 + s.length < 16777216; omega)
  have hz : ((0 : Nat) : Int) = 0 := rfl
  rw [hz, List.nil_append] at e
  unfold f__law_rows b__law_rows
  simp? only [txt_signs, e, finD]
theorem rows_ok : ∀ (s : List Sg) (l r : Nat), okDs 59 (rowsD l r s) = true
  | [], l, r => by rw [rowsD, okDs]
  | .l :: s, l, r => by rw [rowsD, okDs, rows_ok s]; rfl
  | .e :: s, l, r => by rw [rowsD, okDs, rows_ok s]; rfl
  | .g :: s, l, r => by rw [rowsD, okDs, rows_ok s]; rfl
theorem rowsD_len : ∀ (s : List Sg) (l r : Nat), (rowsD l r s).length = s.length
  | [], l, r => rfl
  | .l :: s, l, r => by rw [rowsD, List.length_cons, rowsD_len s, List.length_cons]
  | .e :: s, l, r => by rw [rowsD, List.length_cons, rowsD_len s, List.length_cons]
  | .g :: s, l, r => by rw [rowsD, List.length_cons, rowsD_len s, List.length_cons]
end
theorem ix_sign3 (r : Int) (h0 : 0 ≤ r) (h1 : r < 3) : ∃ c : Sg, ∀ sl ce, kIx (.im (.str "<=>")) (.im (.int r)) sl ce = .ok (.im (.str (txt [c]))) ce := by
  have e : r = 0 ∨ r = 1 ∨ r = 2 := by omega
  have es : ("<=>" : Str) = txt [.l, .e, .g] := by decide +kernel
  rcases e with rfl | rfl | rfl
  · exact ⟨.l, fun sl ce => by rw [es]; rfl⟩
  · exact ⟨.e, fun sl ce => by rw [es]; rfl⟩
  · exact ⟨.g, fun sl ce => by rw [es]; rfl⟩
theorem lefts_rep (c : Sg) (n : Nat) : lefts (List.replicate n c) = if c = .g then 0 else n := by
  unfold lefts
  rw [List.length_replicate, List.count_replicate]
  cases c <;> simp
theorem rights_rep (c : Sg) (n : Nat) : rights (List.replicate n c) = if c = .l then 0 else n := by
  unfold rights
  rw [List.length_replicate, List.count_replicate]
  cases c <;> simp
theorem lruns_loop (k L R : Nat) (hL : L ≤ 400) (hR : R ≤ 400) : ∀ (items : List D) (s : List Sg) (ds : List Int) (ce : List Cell) (x6 x7 x8 : Option Val), ce[k]? = some (.lst (ds.map .int)) → lefts s ≤ L → rights s ≤ R →
    ∃ (s' : List Sg) (ds' : List Int) (y6 y7 y8 : Option Val), forD (gN 6) lp__law_runs_0 items [some (.cell k), some (.im (.int L)), some (.im (.int R)), some (.im (.str (txt s))), some (.im (.int ((L - lefts s : Nat) : Int))), some (.im (.int ((R - rights s : Nat) : Int))), x6, x7, x8] ce =
      .nx [some (.cell k), some (.im (.int L)), some (.im (.int R)), some (.im (.str (txt s'))), some (.im (.int ((L - lefts s' : Nat) : Int))), some (.im (.int ((R - rights s' : Nat) : Int))), y6, y7, y8] (ce.set k (.lst (ds'.map D.int))) ∧ lefts s' ≤ L ∧ rights s' ≤ R
  | [], s, ds, ce, x6, x7, x8, hk, h1, h2 => ⟨s, ds, x6, x7, x8, by rw [forD, set_same hk], h1, h2⟩
  | d :: items, s, ds, ce, x6, x7, x8, hk, h1, h2 => by
    obtain ⟨r, ds1, r0, r1, ed⟩ := m_draw k ds 3 ce hk (by decide)
    obtain ⟨c, ec⟩ := ix_sign3 r r0 r1
    have hkl := (List.getElem?_eq_some_iff.mp hk).1
    have hk1 : (ce.set k (.lst (ds1.map D.int)))[k]? = some (.lst (ds1.map .int)) := List.getElem?_set_self hkl
    obtain ⟨q, ds2, q0, q1, eq⟩ := m_draw k ds1 9 _ hk1 (by decide)
    simp only [List.set_set] at eq
    have hk2 : (ce.set k (.lst (ds2.map D.int)))[k]? = some (.lst (ds2.map .int)) := List.getElem?_set_self hkl
    obtain ⟨m, hm⟩ : ∃ m : Nat, (1 : Int) + q = m := ⟨(1 + q).toNat, by omega⟩
    have hlen := len_le s
    let n := match c with | .g => min m (R - rights s) | .l => min m (L - lefts s) | .e => min (min m (L - lefts s)) (R - rights s)
    have hn : n ≤ 400 ∧ (c ≠ .g → n ≤ L - lefts s) ∧ (c ≠ .l → n ≤ R - rights s) := by
      cases c <;> simp only [n] <;> refine ⟨by omega, fun h => ?_, fun h => ?_⟩ <;> first | omega | exact absurd rfl h
    have hl : lefts (s ++ List.replicate n c) = lefts s + (if c = .g then 0 else n) := by rw [lefts_app, lefts_rep]
    have hr : rights (s ++ List.replicate n c) = rights s + (if c = .l then 0 else n) := by rw [rights_app, rights_rep]
    obtain ⟨s', ds', y6, y7, y8, e, g1, g2⟩ := lruns_loop k L R hL hR items (s ++ List.replicate n c) ds2 _ (some (.im d)) (some (.im (.str (txt [c])))) (some (.im (.int n))) hk2
      (by rw [hl]; by_cases h : c = .g <;> simp [h]; exact h1; have := hn.2.1 h; omega) (by rw [hr]; by_cases h : c = .l <;> simp [h]; exact h2; have := hn.2.2 h; omega)
    simp only [List.set_set] at e
    refine ⟨s', ds', y6, y7, y8, ?_, g1, g2⟩
    rw [← e, forD, hl, hr]
    simp only [gN, List.set_cons_zero, List.set_cons_succ]
    have mn : ∀ (a b : Nat) sl ce, kMin [.im (.int a), .im (.int b)] sl ce = .ok (.im (.int ((min a b : Nat) : Int))) ce := fun a b sl ce => by
      unfold kMin
      dsimp only
      by_cases h : (b : Int) < (a : Int)
      · rw [if_pos h, show min a b = b by omega]
        rfl
      · rw [if_neg h, show min a b = a by omega]
        rfl
    have ai : ∀ (i j : Int) sl ce, kAdd (.im (.int i)) (.im (.int j)) sl ce = .ok (.im (.int (i + j))) ce := fun i j sl ce => rfl
    have rp : ∀ sl ce, kRepS (.im (.str (txt [c]))) (.im (.int (n : Int))) sl ce = .ok (.im (.str (txt (List.replicate n c)))) ce := fun sl ce => rep_s c n (by omega)
    have ad : ∀ sl ce, kAdd (.im (.str (txt s))) (.im (.str (txt (List.replicate n c)))) sl ce = .ok (.im (.str (txt (s ++ List.replicate n c)))) ce := fun sl ce => add_s _ _ (by rw [List.length_replicate]; omega)
    have mu : ∀ (b : Int) sl ce, b = 0 ∨ b = 1 → kMul (.im (.int (n : Int))) (.im (.int b)) sl ce = .ok (.im (.int ((n : Int) * b))) ce := fun b sl ce hb => by
      have : mulOK (n : Int) b = true := mul_ok_l (by omega)
      unfold kMul
      simp only [this, if_true]
    have m1 := fun sl ce => mu 1 sl ce (.inr rfl)
    have m0 := fun sl ce => mu 0 sl ce (.inl rfl)
    unfold lp__law_runs_0
    cases c with
    | l =>
      have hnn : n = min m (L - lefts s) := rfl
      have z1 : ((L - lefts s : Nat) : Int) - (n : Int) * 1 = ((L - (lefts s + n) : Nat) : Int) := by omega
      have z2 : ((R - rights s : Nat) : Int) - (n : Int) * 0 = ((R - (rights s + 0) : Nat) : Int) := by omega
      simp? only [-kAdd, -kMin, -kMul, ed, ec, eq, ai, hm, sl1, sl3, eq_txt, mn, ← hnn, rp, ad, m1, m0, z1, z2]
    | g =>
      have hnn : n = min m (R - rights s) := rfl
      have z1 : ((L - lefts s : Nat) : Int) - (n : Int) * 0 = ((L - (lefts s + 0) : Nat) : Int) := by omega
      have z2 : ((R - rights s : Nat) : Int) - (n : Int) * 1 = ((R - (rights s + n) : Nat) : Int) := by omega
      simp? only [-kAdd, -kMin, -kMul, ed, ec, eq, ai, hm, sl1, sl3, eq_txt, mn, ← hnn, rp, ad, m1, m0, z1, z2]
    | e =>
      have hnn : n = min (min m (L - lefts s)) (R - rights s) := rfl
      have z1 : ((L - lefts s : Nat) : Int) - (n : Int) * 1 = ((L - (lefts s + n) : Nat) : Int) := by omega
      have z2 : ((R - rights s : Nat) : Int) - (n : Int) * 1 = ((R - (rights s + n) : Nat) : Int) := by omega
      simp? only [-kAdd, -kMin, -kMul, ed, ec, eq, ai, hm, sl1, sl3, eq_txt, mn, ← hnn, rp, ad, m1, m0, z1, z2]
theorem m_lruns (k L R : Nat) (hL : L ≤ 400) (hR : R ≤ 400) (ds : List Int) (ce : List Cell) (hk : ce[k]? = some (.lst (ds.map .int))) : ∃ s ds', f__law_runs [.cell k, .im (.int L), .im (.int R)] ce = .ok (.im (.str (txt s))) (ce.set k (.lst (List.map D.int ds'))) ∧ lefts s ≤ L ∧ rights s ≤ R := by
  obtain ⟨s', ds', y6, y7, y8, e, q1, q2⟩ := lruns_loop k L R hL hR ((List.range 20).map fun (i : Nat) => D.int (i : Int)) [] ds ce none none none hk (Nat.zero_le _) (Nat.zero_le _)
  have e00 : lefts [] = 0 := rfl
  have e01 : rights [] = 0 := rfl
  rw [e00, e01, Nat.sub_zero, Nat.sub_zero] at e
  refine ⟨s', ds', ?_, q1, q2⟩
  unfold f__law_runs b__law_runs
  have kr : kRng1 [.im (.int 20)] = some ((List.range 20).map fun (i : Nat) => D.int (i : Int)) := rng1 20 (by decide)
  have es : ("" : Str) = txt [] := txt_nil.symm
  simp? only [-kAdd, kr, es, e, finD, set_take]
end ZZ
set_option Elab.async false
set_option linter.all false
set_option maxRecDepth 100000
set_option maxHeartbeats 4000000
namespace ZZ
open PySem PySem.Spec L2
theorem law_true : ∀ ns : List Int, ns.length ≤ 63 → ∃ ce', f_law [.im (.wl (ns.map .int))] [] = .ok (.im (.bl true)) ce' := by
  intro ns hl
  obtain ⟨ds0, e0⟩ := m_pool ns hl 120 (by decide) []
  obtain ⟨r1, ds1, a1, b1, e1⟩ := m_draw 0 ds0 2 [.lst (ds0.map .int)] rfl (by decide)
  obtain ⟨T, hT0, hT1, eT⟩ : ∃ T : Int, 0 < T ∧ T ≤ 21 ∧ ∀ sl ce, kIx (.im (.lst [.int 4, .int 21])) (.im (.int r1)) sl ce = .ok (.im (.int T)) ce := by
    have : r1 = 0 ∨ r1 = 1 := by omega
    rcases this with rfl | rfl
    · exact ⟨4, by decide, by decide, fun sl ce => rfl⟩
    · exact ⟨21, by decide, by decide, fun sl ce => rfl⟩
  obtain ⟨r2, ds2, a2, b2, e2⟩ := m_draw 0 ds1 T [.lst (ds1.map .int)] rfl hT0
  obtain ⟨r3, ds3, a3, b3, e3⟩ := m_draw 0 ds2 T [.lst (ds2.map .int)] rfl hT0
  obtain ⟨r4, ds4, a4, b4, e4⟩ := m_draw 0 ds3 2 [.lst (ds3.map .int)] rfl (by decide)
  obtain ⟨L, rfl⟩ : ∃ L : Nat, r2 = L := ⟨r2.toNat, by omega⟩
  obtain ⟨R, rfl⟩ : ∃ L : Nat, r3 = L := ⟨r3.toNat, by omega⟩
  have ne : ([] : List Cell).length = 0 := rfl
  simp only [ne, List.nil_append, List.set_cons_zero] at e0 e1 e2 e3 e4
  have e120 : ((120 : Nat) : Int) = 120 := rfl
  rw [e120] at e0
  have es : D.wl (ns.map .int) = scr ns := rfl
  rw [es]
  obtain ⟨s, ds5, e5, hs⟩ : ∃ (s : List Sg) (ds5 : List Int), (∀ sl, sl[1]? = some (some (.cell 0)) → sl[3]? = some (some (.im (.int L))) → sl[4]? = some (some (.im (.int R))) → 5 < sl.length → sIf (eBin kEq (eArgs [(eV 1), (eC (.int 2))] (kCall f__law_draw)) (eC (.int 0))) (sSet 5 (eArgs [(eV 1), (eV 3), (eV 4)] (kCall f__law_path))) (sSet 5 (eArgs [(eV 1), (eV 3), (eV 4)] (kCall f__law_runs))) sl [.lst (ds3.map .int)] = .nx (sl.set 5 (some (.im (.str (txt s))))) [.lst (ds5.map .int)]) ∧ s.length < 900 := by
    by_cases h4 : r4 = 0
    · subst h4
      obtain ⟨s, ds5, e5, hs⟩ := m_path 0 L R (by omega) (by omega) ds4 [.lst (ds4.map .int)] rfl
      refine ⟨s, ds5, fun sl h1 h3 h4 h5 => ?_, by have := hs.len; omega⟩
      simp only [List.set_cons_zero] at e5
      simp? only [-kAdd, h1, h3, h4, e4, eq_int, e5]
    · obtain ⟨s, ds5, e5, h1, h2⟩ := m_lruns 0 L R (by omega) (by omega) ds4 [.lst (ds4.map .int)] rfl
      refine ⟨s, ds5, fun sl h1 h3 h5 h6 => ?_, by have := len_le s; omega⟩
      simp only [List.set_cons_zero] at e5
      simp? only [-kAdd, h1, h3, h5, e4, eq_int, h4, e5]
  have e5 := e5 [some (.im (scr ns)), some (.cell 0), some (.im (.int T)), some (.im (.int L)), some (.im (.int R)), none, none, none, none, none] rfl rfl rfl (by show 5 < 10; decide)
  have mk := fun sl ce => m_make s sl ce (by omega)
  have du := m_due (ce := [.lst (ds5.map .int)]) rfl s (by omega)
  have ri := fun ce => m_right (ce := ce) s (by omega)
  have rn := fun ce => m_right (ce := ce) (swap s) (by unfold swap; rw [List.length_map]; omega)
  have ng := fun ce => m_neg (ce := ce) s (by omega)
  have hf : ∀ rs : List (Sg × Nat), (flR rs 0 0).length ≤ rs.length := fun rs => flR_len rs 0 0
  have lc1 := fun (ce : List Cell) (a0 a1 a2 a3 a4 a5 a6 : Option Val) => lc_map (own := [8]) (fi := iExp (eV 7) itL) (g := gN 8) (f := el_law_0) (sl := [a0, a1, a2, a3, a4, a5, a6, some (.im (.lst ((flR (runsF s) 0 0).map .tup))), none, none]) (ce := ce) (flR (runsF s) 0 0) .tup (fun r => .tup (oth r)) (by simp? only []) (by have h1 := hf (runsF s); have h2 := runs_len s; omega) (fun r hr acc => ⟨_, rfl, by
    obtain ⟨w, a, b, c, rfl⟩ := flR_row _ _ _ r hr
    unfold el_law_0
    simp? only [wipeD, m_other]⟩)
  have lc2 := fun (ce : List Cell) (a0 a1 a2 a3 a4 a5 a7 : Option Val) => lc_map (own := [9]) (fi := iExp (eV 6) (itO c_Record 1)) (g := gN 9) (f := el_law_1) (sl := [a0, a1, a2, a3, a4, a5, some (.im (recD s)), a7, none, none]) (ce := ce) (rowsD 0 0 s) id id (by
      simp? only [itO, recD, List.map_id]) (by rw [rowsD_len]; omega) (fun d hd acc => ⟨_, rfl, by
    unfold el_law_1
    simp? only [wipeD, id]⟩)
  simp only [List.map_id] at lc2
  have mm : (flR (runsF s) 0 0).map (fun r => D.tup (oth r)) = (flR (runsF (swap s)) 0 0).map .tup := by rw [fl_swap, List.map_map]; rfl
  rw [mm] at lc1
  have rl := fun ce => m_lrows (ce := ce) s (by omega)
  have okl : okD 60 (.lst (rowsD 0 0 s)) = true := by rw [okD]; exact rows_ok s 0 0
  have q := fun (sl : Sl) (ce : List Cell) => eq_gd (neg := false) (sl := sl) (ce := ce) okl okl
  rw [eqD_refl _ _ okl] at q
  have ln := fun sl ce => len_r (sl := sl) (ce := ce) s (by omega)
  have lt : s.length ≤ 16777216 := by omega
  refine ⟨[], ?_⟩
  unfold f_law b_law
  simp? only [-kAdd, -sIf, ] at e5
  simp? only [-kAdd, -sIf, e0, e1, eT, e2, e3, e5]
  simp? only [-kAdd, mk, du, ri, own1_r, ng, lc1, rn, fld_s, eq_txt, lc2, rl, q, ln, txt_len, lt, eq_int, finD, List.take_zero]
end ZZ
set_option Elab.async false
set_option linter.all false
set_option maxRecDepth 100000
set_option maxHeartbeats 4000000
namespace ZZ
open PySem PySem.Spec L2 L2H
open ZH
/-- the law's own promise -/
def spLaw (K : PySem.W.Frag) : Sp := fun vs H Q _ => ∃ (a : Addr) (ns : List Int), vs = [.ref a] ∧ SqL K H a (ns.map V.int) ∧ ns.length ≤ 63 ∧ ∀ H', Q (.bl true) H'
theorem ints_reps {Z : Zx} {F : Hp} : ∀ ns : List Int, Reps Z F (ns.map D.int) (ns.map V.int)
  | [] => reps_nil
  | n :: ns => reps_cons (by unfold Rep; rfl) (ints_reps ns)
theorem sp_law {w : World} {K : PySem.W.Frag} {cl : Nat → Addr} {vs : List V} {H : Hp} {Q : VK} {E : XK} (h : spLaw K vs H Q E) : spD (Zz w K cl) f_law 1 vs H Q E := by
  obtain ⟨a, ns, rfl, hS, hl, k⟩ := h
  obtain ⟨ce', he⟩ := law_true ns hl
  refine ⟨[], H, [], [.im (.wl (ns.map .int))], ⟨Same.refl _, rfl, List.nodup_nil, fun k a c h1 h2 => by simp at h1⟩, ⟨_, _, rfl, ?_, rfl⟩, rfl, ?_⟩
  · unfold VRep Rep
    exact ⟨a, _, rfl, hS, ints_reps ns⟩
  · rw [he]
    intro A' F' H' x _ _ _ r
    rw [rep_bl r]
    exact k H'
theorem tx_mk {w : World} {K : PySem.W.Frag} {h : Heap} {mg : Str → Option Value} (X : K.In h) (G : h.Ns mainGlobals mg) (cZ : SaysZ fbs fnl tbs w K) : Tx PySem.Challenge.pw_siltmeet_k10_record_floods w K mg (fun n => [92, 127, 178, 213, 261, 275, 282, 289, 296, 303, 310, 315, 320, 327, 334, 339, 67, 185].getD n 0) (fun n => [70, 264].getD n 0) := {
    b_abs := PySem.W.mg_none_of X G (cZ.dec (p := PySem.W.nsIn K mainGlobals "abs" = some none) (i := 0) (j := 0) rfl rfl rfl),
    b_bool := PySem.W.mg_none_of X G (cZ.dec (p := PySem.W.nsIn K mainGlobals "bool" = some none) (i := 0) (j := 1) rfl rfl rfl),
    b_enumerate := PySem.W.mg_none_of X G (cZ.dec (p := PySem.W.nsIn K mainGlobals "enumerate" = some none) (i := 0) (j := 2) rfl rfl rfl),
    b_int := PySem.W.mg_none_of X G (cZ.dec (p := PySem.W.nsIn K mainGlobals "int" = some none) (i := 0) (j := 3) rfl rfl rfl),
    b_isinstance := PySem.W.mg_none_of X G (cZ.dec (p := PySem.W.nsIn K mainGlobals "isinstance" = some none) (i := 0) (j := 4) rfl rfl rfl),
    b_len := PySem.W.mg_none_of X G (cZ.dec (p := PySem.W.nsIn K mainGlobals "len" = some none) (i := 0) (j := 5) rfl rfl rfl),
    b_min := PySem.W.mg_none_of X G (cZ.dec (p := PySem.W.nsIn K mainGlobals "min" = some none) (i := 0) (j := 6) rfl rfl rfl),
    b_range := PySem.W.mg_none_of X G (cZ.dec (p := PySem.W.nsIn K mainGlobals "range" = some none) (i := 0) (j := 7) rfl rfl rfl),
    b_str := PySem.W.mg_none_of X G (cZ.dec (p := PySem.W.nsIn K mainGlobals "str" = some none) (i := 0) (j := 8) rfl rfl rfl),
    b_tuple := PySem.W.mg_none_of X G (cZ.dec (p := PySem.W.nsIn K mainGlobals "tuple" = some none) (i := 0) (j := 9) rfl rfl rfl),
    f_runs := (let ⟨_, F⟩ := fun_z (cZ.fns (i := 0) (d := dz_0) rfl) rfl rfl; ⟨_, F, F.binds (ps := ["steps"]) fun _ _ _ _ _ _ us hl => match us, hl with | [_], _ => rfl⟩),
    g_runs := PySem.W.mg_of X G (cZ.dec (p := PySem.W.nsIn K mainGlobals "runs" = some (some (.ref 92))) (i := 0) (j := 10) rfl rfl rfl),
    f_Record___init__ := (let ⟨_, F⟩ := fun_z (cZ.fns (i := 1) (d := dz_1) rfl) rfl rfl; ⟨_, F, F.binds (ps := ["self", "steps"]) fun _ _ _ _ _ _ us hl => match us, hl with | [_, _], _ => rfl⟩),
    f_Record___len__ := (let ⟨_, F⟩ := fun_z (cZ.fns (i := 2) (d := dz_2) rfl) rfl rfl; ⟨_, F, F.binds (ps := ["self"]) fun _ _ _ _ _ _ us hl => match us, hl with | [_], _ => rfl⟩),
    o1_Record___len__ := ⟨(cZ.dec (p := PySem.W.findIn K (.ref 264) "__len__" = some (some (.ref 178))) (i := 0) (j := 11) rfl rfl rfl), (cZ.fact (i := 0) (j := 12) rfl rfl : PySem.W.isFn K (.ref 178) = true)⟩,
    f_Record_floods := (let ⟨_, F⟩ := fun_z (cZ.fns (i := 3) (d := dz_3) rfl) rfl rfl; ⟨_, F, F.binds (ps := ["self"]) fun _ _ _ _ _ _ us hl => match us, hl with | [_], _ => rfl⟩),
    m_Record_floods := ⟨(cZ.dec (p := PySem.W.findIn K (.ref 264) "floods" = some (some (.ref 213))) (i := 0) (j := 13) rfl rfl rfl), (cZ.fact (i := 0) (j := 14) rfl rfl : PySem.W.isFn K (.ref 213) = true), (cZ.fact (i := 0) (j := 15) rfl rfl : PySem.W.keepIn K (.ref 213) = true)⟩,
    f_Record___neg__ := (let ⟨_, F⟩ := fun_z (cZ.fns (i := 4) (d := dz_4) rfl) rfl rfl; ⟨_, F, F.binds (ps := ["self"]) fun _ _ _ _ _ _ us hl => match us, hl with | [_], _ => rfl⟩),
    o1_Record___neg__ := ⟨(cZ.dec (p := PySem.W.findIn K (.ref 264) "__neg__" = some (some (.ref 261))) (i := 0) (j := 16) rfl rfl rfl), (cZ.fact (i := 0) (j := 17) rfl rfl : PySem.W.isFn K (.ref 261) = true)⟩,
    f__law_mix := (let ⟨_, F⟩ := fun_z (cZ.fns (i := 5) (d := dz_5) rfl) rfl rfl; ⟨_, F, F.binds (ps := ["_law_cell", "_law_turn"]) fun _ _ _ _ _ _ us hl => match us, hl with | [_, _], _ => rfl⟩),
    g__law_mix := PySem.W.mg_of X G (cZ.dec (p := PySem.W.nsIn K mainGlobals "_law_mix" = some (some (.ref 275))) (i := 0) (j := 18) rfl rfl rfl),
    f__law_pool := (let ⟨_, F⟩ := fun_z (cZ.fns (i := 6) (d := dz_6) rfl) rfl rfl; ⟨_, F, F.binds (ps := ["_law_script", "_law_many"]) fun _ _ _ _ _ _ us hl => match us, hl with | [_, _], _ => rfl⟩),
    g__law_pool := PySem.W.mg_of X G (cZ.dec (p := PySem.W.nsIn K mainGlobals "_law_pool" = some (some (.ref 282))) (i := 0) (j := 19) rfl rfl rfl),
    f__law_draw := (let ⟨_, F⟩ := fun_z (cZ.fns (i := 7) (d := dz_7) rfl) rfl rfl; ⟨_, F, F.binds (ps := ["_law_pool_here", "_law_bound"]) fun _ _ _ _ _ _ us hl => match us, hl with | [_, _], _ => rfl⟩),
    g__law_draw := PySem.W.mg_of X G (cZ.dec (p := PySem.W.nsIn K mainGlobals "_law_draw" = some (some (.ref 289))) (i := 0) (j := 20) rfl rfl rfl),
    f__law_path := (let ⟨_, F⟩ := fun_z (cZ.fns (i := 8) (d := dz_8) rfl) rfl rfl; ⟨_, F, F.binds (ps := ["_law_pool_here", "_law_lefts", "_law_rights"]) fun _ _ _ _ _ _ us hl => match us, hl with | [_, _, _], _ => rfl⟩),
    g__law_path := PySem.W.mg_of X G (cZ.dec (p := PySem.W.nsIn K mainGlobals "_law_path" = some (some (.ref 296))) (i := 0) (j := 21) rfl rfl rfl),
    f__law_whole := (let ⟨_, F⟩ := fun_z (cZ.fns (i := 9) (d := dz_9) rfl) rfl rfl; ⟨_, F, F.binds (ps := ["_law_number"]) fun _ _ _ _ _ _ us hl => match us, hl with | [_], _ => rfl⟩),
    g__law_whole := PySem.W.mg_of X G (cZ.dec (p := PySem.W.nsIn K mainGlobals "_law_whole" = some (some (.ref 303))) (i := 0) (j := 22) rfl rfl rfl),
    f__law_runs := (let ⟨_, F⟩ := fun_z (cZ.fns (i := 10) (d := dz_10) rfl) rfl rfl; ⟨_, F, F.binds (ps := ["_law_pool_here", "_law_lefts", "_law_rights"]) fun _ _ _ _ _ _ us hl => match us, hl with | [_, _, _], _ => rfl⟩),
    g__law_runs := PySem.W.mg_of X G (cZ.dec (p := PySem.W.nsIn K mainGlobals "_law_runs" = some (some (.ref 310))) (i := 0) (j := 23) rfl rfl rfl),
    f__law_due := (let ⟨_, F⟩ := fun_z (cZ.fns (i := 11) (d := dz_11) rfl) rfl rfl; ⟨_, F, F.binds (ps := ["_law_steps"]) fun _ _ _ _ _ _ us hl => match us, hl with | [_], _ => rfl⟩),
    g__law_due := PySem.W.mg_of X G (cZ.dec (p := PySem.W.nsIn K mainGlobals "_law_due" = some (some (.ref 315))) (i := 0) (j := 24) rfl rfl rfl),
    f__law_right := (let ⟨_, F⟩ := fun_z (cZ.fns (i := 12) (d := dz_12) rfl) rfl rfl; ⟨_, F, F.binds (ps := ["_law_record", "_law_due_here"]) fun _ _ _ _ _ _ us hl => match us, hl with | [_, _], _ => rfl⟩),
    g__law_right := PySem.W.mg_of X G (cZ.dec (p := PySem.W.nsIn K mainGlobals "_law_right" = some (some (.ref 320))) (i := 1) (j := 0) rfl rfl rfl),
    f__law_rows := (let ⟨_, F⟩ := fun_z (cZ.fns (i := 13) (d := dz_13) rfl) rfl rfl; ⟨_, F, F.binds (ps := ["_law_steps"]) fun _ _ _ _ _ _ us hl => match us, hl with | [_], _ => rfl⟩),
    g__law_rows := PySem.W.mg_of X G (cZ.dec (p := PySem.W.nsIn K mainGlobals "_law_rows" = some (some (.ref 327))) (i := 1) (j := 1) rfl rfl rfl),
    f__law_other := (let ⟨_, F⟩ := fun_z (cZ.fns (i := 14) (d := dz_14) rfl) rfl rfl; ⟨_, F, F.binds (ps := ["_law_flood"]) fun _ _ _ _ _ _ us hl => match us, hl with | [_], _ => rfl⟩),
    g__law_other := PySem.W.mg_of X G (cZ.dec (p := PySem.W.nsIn K mainGlobals "_law_other" = some (some (.ref 334))) (i := 1) (j := 2) rfl rfl rfl),
    f_law := (let ⟨_, F⟩ := fun_z (cZ.fns (i := 15) (d := dz_15) rfl) rfl rfl; ⟨_, F, F.binds (ps := ["_law_script"]) fun _ _ _ _ _ _ us hl => match us, hl with | [_], _ => rfl⟩),
    g_law := PySem.W.mg_of X G (cZ.dec (p := PySem.W.nsIn K mainGlobals "law" = some (some (.ref 339))) (i := 1) (j := 3) rfl rfl rfl),
    g_Record := PySem.W.mg_of X G (cZ.dec (p := PySem.W.nsIn K mainGlobals "Record" = some (some (.ref 264))) (i := 1) (j := 4) rfl rfl rfl),
    k_Record := ⟨⟨(cZ.fact (i := 1) (j := 5) rfl rfl : PySem.W.plainGet K 264 Str.empty = true), (cZ.fact (i := 1) (j := 6) rfl rfl : PySem.W.hasDictIn K 264 = true), (cZ.fact (i := 1) (j := 7) rfl rfl : PySem.W.plainOver K 264 = true), (cZ.dec (p := PySem.W.findIn K (.ref 264) "__setattr__" = some (some (.builtin "object.__setattr__"))) (i := 1) (j := 8) rfl rfl rfl)⟩, by show (flds 1).Nodup; decide +kernel⟩,
    na_Record_steps := (cZ.dec (p := PySem.W.findIn K (.ref 264) "steps" = some none) (i := 1) (j := 9) rfl rfl rfl),
    na_Record_rows := (cZ.dec (p := PySem.W.findIn K (.ref 264) "rows" = some none) (i := 1) (j := 10) rfl rfl rfl),
    mk_Record := ⟨(cZ.fact (i := 1) (j := 11) rfl rfl : PySem.W.makesIn K 264 = true), (cZ.dec (p := PySem.W.findIn K (.ref 264) "__init__" = some (some (.ref 127))) (i := 1) (j := 12) rfl rfl rfl), (cZ.fact (i := 1) (j := 13) rfl rfl : PySem.W.isFn K (.ref 127) = true), (cZ.fact (i := 1) (j := 14) rfl rfl : PySem.W.keepIn K (.ref 264) = true)⟩,
    f_Record___iter__ := (let ⟨_, F⟩ := fun_z (cZ.fns (i := 16) (d := dz_16) rfl) rfl rfl; ⟨_, F, F.binds (ps := ["self"]) fun _ _ _ _ _ _ us hl => match us, hl with | [_], _ => rfl⟩),
    b_iter := PySem.W.mg_none_of X G (cZ.dec (p := PySem.W.nsIn K mainGlobals "iter" = some none) (i := 1) (j := 15) rfl rfl rfl),
    it_Record := ⟨(cZ.dec (p := PySem.W.findIn K (.ref 264) "__iter__" = some (some (.ref 185))) (i := 1) (j := 16) rfl rfl rfl), (cZ.fact (i := 1) (j := 17) rfl rfl : PySem.W.isFn K (.ref 185) = true)⟩,
    g_BadRecord := PySem.W.mg_of X G (cZ.dec (p := PySem.W.nsIn K mainGlobals "BadRecord" = some (some (.ref 70))) (i := 1) (j := 18) rfl rfl rfl),
    o_BadRecord := ⟨excB_ok (cZ.fact (i := 1) (j := 23) rfl rfl : excB K 70 = true), (cZ.dec (p := PySem.W.findIn K (.ref 70) "__setattr__" = some (some (.builtin "object.__setattr__"))) (i := 1) (j := 22) rfl rfl rfl), (cZ.dec (p := PySem.W.subIn K (.ref 70) (.type "BaseException") = some true) (i := 1) (j := 20) rfl rfl rfl), (cZ.dec (p := PySem.W.typeIn K (.ref 70) = some (.type "type")) (i := 1) (j := 21) rfl rfl rfl), (cZ.fact (i := 1) (j := 19) rfl rfl : PySem.W.keepIn K (.ref 70) = true)⟩,
    i_BadRecord := (cZ.dec (p := PySem.W.findIn K (.ref 70) "__init__" = some (some (.ref 67))) (i := 1) (j := 24) rfl rfl rfl),
    t_BadRecord := (cZ.dec (p := PySem.W.typeIn K (.ref 67) = some (.type "function")) (i := 2) (j := 0) rfl rfl rfl),
    nx_BadRecord_index := (cZ.dec (p := PySem.W.findIn K (.ref 70) "index" = some none) (i := 2) (j := 1) rfl rfl rfl),
    f_BadRecord___init__ := (let ⟨_, F⟩ := fun_z (cZ.fns (i := 17) (d := dz_17) rfl) rfl rfl; ⟨_, F, F.binds (ps := ["self", "index"]) fun _ _ _ _ _ _ us hl => match us, hl with | [_, _], _ => rfl⟩),
    ik_bool := (fun ty b h => by
      unfold i_bool at h
      split at h
      · cases h; exact kit_ty (by decide +kernel)
      · cases h; exact kit_ty (by decide +kernel)
      · cases h; exact kit_ty (by decide +kernel)
      · cases h; exact kit_ty (by decide +kernel)
      · cases h; exact kit_ty (by decide +kernel)
      · cases h; exact kit_ty (by decide +kernel)
      · cases h; exact (cZ.dec (p := PySem.W.kitOne K (.ref 264) (.type "bool") = some false) (i := 2) (j := 2) rfl rfl rfl)
      · cases h),
    ic_bool := (fun c b h => by
      unfold i_bool at h
      split at h
      · rename_i e; cases e
      · rename_i e; cases e
      · rename_i e; cases e
      · rename_i e; cases e
      · rename_i e; cases e
      · rename_i e; cases e
      · rename_i e; cases e; exact ⟨⟨(cZ.fact (i := 1) (j := 5) rfl rfl : PySem.W.plainGet K 264 Str.empty = true), (cZ.fact (i := 1) (j := 6) rfl rfl : PySem.W.hasDictIn K 264 = true), (cZ.fact (i := 1) (j := 7) rfl rfl : PySem.W.plainOver K 264 = true), (cZ.dec (p := PySem.W.findIn K (.ref 264) "__setattr__" = some (some (.builtin "object.__setattr__"))) (i := 1) (j := 8) rfl rfl rfl)⟩, (cZ.dec (p := PySem.W.findIn K (.ref 264) "__class__" = some (some (.builtin "object.__class__"))) (i := 2) (j := 3) rfl rfl rfl), (cZ.dec (p := PySem.W.specialIn K (.builtin "object.__class__") "__get__" = some (some (.builtin "getset_descriptor.__get__"))) (i := 2) (j := 4) rfl rfl rfl), (cZ.dec (p := PySem.W.takesIn K (.builtin "object.__class__") = some true) (i := 2) (j := 5) rfl rfl rfl), (cZ.dec (p := PySem.W.mroIn K 264 (.type "object") = some true) (i := 2) (j := 6) rfl rfl rfl)⟩
      · cases h),
    ik_int := (fun ty b h => by
      unfold i_int at h
      split at h
      · cases h; exact kit_ty (by decide +kernel)
      · cases h; exact kit_ty (by decide +kernel)
      · cases h; exact kit_ty (by decide +kernel)
      · cases h; exact kit_ty (by decide +kernel)
      · cases h; exact kit_ty (by decide +kernel)
      · cases h; exact kit_ty (by decide +kernel)
      · cases h; exact (cZ.dec (p := PySem.W.kitOne K (.ref 264) (.type "int") = some false) (i := 2) (j := 7) rfl rfl rfl)
      · cases h),
    ic_int := (fun c b h => by
      unfold i_int at h
      split at h
      · rename_i e; cases e
      · rename_i e; cases e
      · rename_i e; cases e
      · rename_i e; cases e
      · rename_i e; cases e
      · rename_i e; cases e
      · rename_i e; cases e; exact ⟨⟨(cZ.fact (i := 1) (j := 5) rfl rfl : PySem.W.plainGet K 264 Str.empty = true), (cZ.fact (i := 1) (j := 6) rfl rfl : PySem.W.hasDictIn K 264 = true), (cZ.fact (i := 1) (j := 7) rfl rfl : PySem.W.plainOver K 264 = true), (cZ.dec (p := PySem.W.findIn K (.ref 264) "__setattr__" = some (some (.builtin "object.__setattr__"))) (i := 1) (j := 8) rfl rfl rfl)⟩, (cZ.dec (p := PySem.W.findIn K (.ref 264) "__class__" = some (some (.builtin "object.__class__"))) (i := 2) (j := 3) rfl rfl rfl), (cZ.dec (p := PySem.W.specialIn K (.builtin "object.__class__") "__get__" = some (some (.builtin "getset_descriptor.__get__"))) (i := 2) (j := 4) rfl rfl rfl), (cZ.dec (p := PySem.W.takesIn K (.builtin "object.__class__") = some true) (i := 2) (j := 5) rfl rfl rfl), (cZ.dec (p := PySem.W.mroIn K 264 (.type "object") = some true) (i := 2) (j := 6) rfl rfl rfl)⟩
      · cases h),
    ik_str := (fun ty b h => by
      unfold i_str at h
      split at h
      · cases h; exact kit_ty (by decide +kernel)
      · cases h; exact kit_ty (by decide +kernel)
      · cases h; exact kit_ty (by decide +kernel)
      · cases h; exact kit_ty (by decide +kernel)
      · cases h; exact kit_ty (by decide +kernel)
      · cases h; exact kit_ty (by decide +kernel)
      · cases h; exact (cZ.dec (p := PySem.W.kitOne K (.ref 264) (.type "str") = some false) (i := 2) (j := 8) rfl rfl rfl)
      · cases h),
    ic_str := (fun c b h => by
      unfold i_str at h
      split at h
      · rename_i e; cases e
      · rename_i e; cases e
      · rename_i e; cases e
      · rename_i e; cases e
      · rename_i e; cases e
      · rename_i e; cases e
      · rename_i e; cases e; exact ⟨⟨(cZ.fact (i := 1) (j := 5) rfl rfl : PySem.W.plainGet K 264 Str.empty = true), (cZ.fact (i := 1) (j := 6) rfl rfl : PySem.W.hasDictIn K 264 = true), (cZ.fact (i := 1) (j := 7) rfl rfl : PySem.W.plainOver K 264 = true), (cZ.dec (p := PySem.W.findIn K (.ref 264) "__setattr__" = some (some (.builtin "object.__setattr__"))) (i := 1) (j := 8) rfl rfl rfl)⟩, (cZ.dec (p := PySem.W.findIn K (.ref 264) "__class__" = some (some (.builtin "object.__class__"))) (i := 2) (j := 3) rfl rfl rfl), (cZ.dec (p := PySem.W.specialIn K (.builtin "object.__class__") "__get__" = some (some (.builtin "getset_descriptor.__get__"))) (i := 2) (j := 4) rfl rfl rfl), (cZ.dec (p := PySem.W.takesIn K (.builtin "object.__class__") = some true) (i := 2) (j := 5) rfl rfl rfl), (cZ.dec (p := PySem.W.mroIn K 264 (.type "object") = some true) (i := 2) (j := 6) rfl rfl rfl)⟩
      · cases h),
    ik_tuple := (fun ty b h => by
      unfold i_tuple at h
      split at h
      · cases h; exact kit_ty (by decide +kernel)
      · cases h; exact kit_ty (by decide +kernel)
      · cases h; exact kit_ty (by decide +kernel)
      · cases h; exact kit_ty (by decide +kernel)
      · cases h; exact kit_ty (by decide +kernel)
      · cases h; exact kit_ty (by decide +kernel)
      · cases h; exact (cZ.dec (p := PySem.W.kitOne K (.ref 264) (.type "tuple") = some false) (i := 2) (j := 9) rfl rfl rfl)
      · cases h),
    ic_tuple := (fun c b h => by
      unfold i_tuple at h
      split at h
      · rename_i e; cases e
      · rename_i e; cases e
      · rename_i e; cases e
      · rename_i e; cases e
      · rename_i e; cases e
      · rename_i e; cases e
      · rename_i e; cases e; exact ⟨⟨(cZ.fact (i := 1) (j := 5) rfl rfl : PySem.W.plainGet K 264 Str.empty = true), (cZ.fact (i := 1) (j := 6) rfl rfl : PySem.W.hasDictIn K 264 = true), (cZ.fact (i := 1) (j := 7) rfl rfl : PySem.W.plainOver K 264 = true), (cZ.dec (p := PySem.W.findIn K (.ref 264) "__setattr__" = some (some (.builtin "object.__setattr__"))) (i := 1) (j := 8) rfl rfl rfl)⟩, (cZ.dec (p := PySem.W.findIn K (.ref 264) "__class__" = some (some (.builtin "object.__class__"))) (i := 2) (j := 3) rfl rfl rfl), (cZ.dec (p := PySem.W.specialIn K (.builtin "object.__class__") "__get__" = some (some (.builtin "getset_descriptor.__get__"))) (i := 2) (j := 4) rfl rfl rfl), (cZ.dec (p := PySem.W.takesIn K (.builtin "object.__class__") = some true) (i := 2) (j := 5) rfl rfl rfl), (cZ.dec (p := PySem.W.mroIn K 264 (.type "object") = some true) (i := 2) (j := 6) rfl rfl rfl)⟩
      · cases h),
    d_SWAPPED := (let ⟨_, _, k, e⟩ := cZ.tab (i := 0) (t := (85, d_SWAPPED)) rfl; ⟨_, _, _, PySem.W.mg_of X G (cZ.dec (p := PySem.W.nsIn K mainGlobals "SWAPPED" = some (some (.ref 85))) (i := 2) (j := 10) rfl rfl rfl), k, e⟩) }
open PySem PySem.Spec PyProof.Rows L2 ZH
theorem all_mk {w : World} {K : PySem.W.Frag} {h : Heap} {mg : Str → Option Value} {fa : Addr} (X : K.In h) (G : h.Ns mainGlobals mg) (hfa : mg "law" = some (.ref fa)) (cZ : SaysZ fbs fnl tbs w K) :
    ∃ fd : FuncData, (∀ (s : Shared) (v : Value), BindsTo s fd ⟨[v], []⟩ [("_law_script", v)]) ∧ ∀ base : Heap, K.In base → base.Ns mainGlobals mg → FnOk PySem.Challenge.pw_siltmeet_k10_record_floods w K mg base (L2N.CX PySem.Challenge.pw_siltmeet_k10_record_floods w) 7 fa fd ["_law_script"] (spLaw K) := by
  have e := hfa.symm.trans (PySem.W.mg_of X G (cZ.dec (p := PySem.W.nsIn K mainGlobals "law" = some (some (.ref 339))) (i := 1) (j := 3) rfl rfl rfl))
  cases e
  have T := tx_mk X G cZ
  obtain ⟨fd, F⟩ := fun_z (cZ.fns (i := 18) (d := dz_18) rfl) rfl rfl
  refine ⟨fd, ?_, fun base _ _ => ?_⟩
  · exact law_binds F fun _ _ _ _ _ _ s v => .of_eq rfl
  · exact (okF_law T F).imp fun vs H Q E h => sp_law h
theorem run_f (w : World) : HandSHeadRun.RunEq RR qq hkk obk 30000 nm_all (w.withFollow "special-get-raises" false) := fun os => map_trip (ra_f w os) (rb_f_0 w os)
theorem run_t (w : World) : HandSHeadRun.RunEq RR qq hkk obk 30000 nm_all (w.withFollow "special-get-raises" true) := fun os => map_trip (ra_t w os) (rb_t_0 w os)
end ZZ
set_option Elab.async false
set_option linter.all false
set_option maxRecDepth 100000
set_option maxHeartbeats 4000000
open PySem PySem.W PyProof.Rows in
set_option maxRecDepth 100000 in
set_option maxHeartbeats 0 in
theorem PySem.Challenge.cw_siltmeet_k10_record_floods_holds : PySem.Challenge.rw_siltmeet_k10_record_floods.Holds := by
  w_on; o_law
  refine HandSHeadRun.head_any (r := OpenLaw.row PySem.Challenge.rw_siltmeet_k10_record_floods) (q := view (OpenLaw.row PySem.Challenge.rw_siltmeet_k10_record_floods).prog [24]) (H := ZZ.hkk) (ob := ZZ.obk) (M := 30000) (loose := ZZ.nm_all) (d := HandSHeadRun.topDef (OpenLaw.row PySem.Challenge.rw_siltmeet_k10_record_floods).prog 24) (kwd := []) ZZ.obk_eq
    (by kernel_rfl) (fun s => by kernel_rfl) (PySem.W.byRow2 "special-get-raises" (P := fun w => HandSHeadRun.RunEq ZZ.RR (PySem.W.view ZZ.RR.prog [24]) ZZ.hkk ZZ.obk 30000 ZZ.nm_all w) ZZ.run_f ZZ.run_t) (by kernel_rfl) (by kernel_rfl) (by kernel_rfl) (by rfl) (by first | assumption | decide +kernel) (by decide +kernel) ⟨rfl, rfl, rfl, rfl, rfl, by decide +kernel⟩ ?hw ?hc
  case hw => w_witness2
  case hc =>
    refine ZH.walk_ofZ (l := PySem.Challenge.rw_siltmeet_k10_record_floods) (n := 63) (k := 7) (x := "_law_script") (CX := fun w => L2N.CX PySem.Challenge.pw_siltmeet_k10_record_floods w) rfl (by decide) (by kernel_rfl) ⟨rfl, by decide, by decide⟩ ?F ?E
    case F =>
      intro w mg fa h Y G hmg0
      obtain ⟨K, KX, c⟩ := Y
      have hmg : mg ("law" : PySem.Str) = some (.ref fa) := by
        have e : (HandSHeadRun.topDef (OpenLaw.row PySem.Challenge.rw_siltmeet_k10_record_floods).prog 24).name = ("law" : PySem.Str) := by kernel_rfl
        rw [← e]
        exact hmg0
      obtain ⟨fd, hb, hF⟩ := ZZ.all_mk KX G hmg c
      exact ⟨K, fd, ZZ.spLaw K, KX, hb, fun H a ns hl _ hS => ⟨a, ns, rfl, hS, hl, fun _ => rfl⟩, hF⟩
    case E =>
      intro _ _ _ _ _ h
      obtain ⟨_, _, _, _, _, _, _, _, _, _, _, _, z⟩ := h
      exact z
