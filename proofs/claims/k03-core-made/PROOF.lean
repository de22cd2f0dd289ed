import PyProof.Rows.All
import Wide.All
import OpenK.AllK
import Wide.FinOn
import KE.KeyNested
import KE.KDictWalk
import PyProof.DictRoadsH
import PyProof.DictDisplay
import PyProof.DictTable
import HandS.ForMost
import HandS.Exc
import HandS.ExcOwn
import HandS.TryOnly
import HandS.WordsExc
import HandS.Head2
import HandS.HeadHook1
import HandS.Words
import HandS.Wide
import HandS.Style
import HandS.Flow
import HandS.ExcCtx
import PyProof.P3Eq
import HandS.RevRange
import HandS.Rev
import HandS.CallSlots
import HandS.Property
import HandS.IsInst
import HandS.ExcInit
import HandS.ExcField
import HandS.ExcIs
import HandS.HotCalls
import KE.KExcIs
import KE.KDictZip
import HandS.OwnIter
import PyProof.StrBlock2
import HandS.SlotsOwn
import KE.KOpsOwn
import HandS.Replace
import HandS.ExcInitHot
import HandS.IterNext
import HandS.IterVal
import KE.KOwnIter
import KE.KCallOwn
import KE.KRevSl
import KE.KSuper
import HandS.NestedK
import HandS.ClsMeth
import HandS.MakeKwOnly
import HandS.Star
import HandS.HeadEnd
import HandS.Steps
import HandS.Zip
import KE.GoesMore
import KE.KStar
import KE.DataCmp
import HandS.Conv
import HandS.TupLen
import HandS.SortInts
import HandS.Finally
import HandS.Deep
import HandS.OwnEq
import HandS.Defaults
import HandS.GenList
import HandS.SetFor
import HandS.FStr
import HandS.Text
import HandS.StrMore
import HandS.ExcValue
import PyProof.SeqRoads2
import HandS.MakeKw
import KE.GoesComp
import PyProof.StrLawsIn
import PySem.Challenge.RW_siltmeet_k03_core_made
set_option Elab.async false
set_option linter.all false
set_option maxRecDepth 100000
namespace PySem
open Sem (wp)
open SeqAt
def notText (_ : NestedKey) : Bool := true
/-- the value is the key -/
def KeyIs (h : Heap) (k : NestedKey) (v : Value) : Prop := NestedIs h k v ∧ k.depth ≤ 8 ∧ notText k = true
def entV (w : World) (x : NestedKey × Value × Value) : DictEntry := ⟨x.1.hash w, x.2.1, x.2.2⟩
theorem KeyIs.at {h h' : Heap} {k : NestedKey} {v : Value} (hk : ∀ a o vs n, h.get? a = some o → o.data = .seq vs n → h'.get? a = some o) (x : KeyIs h k v) : KeyIs h' k v := ⟨NestedIs.at hk _ _ x.1, x.2⟩
section
variable {prog : Program} {w : World} {A : Around} {E : Value → Shared → Prop} {s : Shared} {d : Addr} {o : Obj} {es : Array DictEntry} {ep : Nat} {xs : List (NestedKey × Value × Value)} {k : NestedKey} {key : Value}
def DictV (w : World) (h : Heap) (d : Addr) (xs : List (NestedKey × Value × Value)) : Prop :=
  ∃ o es ep, h.get? d = some o ∧ o.ExactDict ∧ o.data = .dict es ep ∧ es.toList = xs.map (entV w) ∧ (∀ x ∈ xs, KeyIs h x.1 x.2.1) ∧ (xs.map (·.1)).Nodup
theorem DictV.typeIs (hm : DictV w s.heap d xs) : s.TypeIs (.ref d) "dict" := let ⟨o, _, _, ho, hc, _⟩ := hm; ⟨o, ho, hc.1⟩
theorem DictV.keep {h h' : Heap} (hm : DictV w h d xs) (hk : ∀ b o, h.get? b = some o → h'.get? b = some o) : DictV w h' d xs := by
  obtain ⟨o, es, ep, ho, hc, hd, he, his, hn⟩ := hm
  exact ⟨o, es, ep, hk _ _ ho, hc, hd, he, fun x hx => (his x hx).at (fun a o _ _ e _ => hk a o e), hn⟩
theorem KeyIs.keeps {h h' : Heap} {k : NestedKey} {v : Value} (x : KeyIs h k v) (ho : h.get? d = some o) (hd : o.data = .dict es ep) (hs : Heap.SameBut d h h') : KeyIs h' k v :=
  x.at (fun b ob vs n hb hc => by
    refine (hs.2 b fun e => ?_).trans hb
    subst e
    rw [ho] at hb
    cases hb
    rw [hd] at hc
    cases hc)
theorem DictV.new (h : Heap) : DictV w (h.push { cls := .type "dict", data := .dict #[] }) h.objs.size [] :=
  ⟨_, #[], 0, Heap.get?_push_size _ rfl, ⟨rfl, rfl, rfl⟩, rfl, rfl, fun _ hx => by simp at hx, List.nodup_nil⟩
end
end PySem
set_option Elab.async false
set_option linter.all false
set_option maxRecDepth 100000
namespace ZZ
open PySem PySem.Spec L2
inductive D where
  | non | bl (b : Bool) | int (i : Int) | str (s : Str)
  | tup (xs : List D) | lst (xs : List D)
  | ins (c : Nat) (xs : List D)
  | wl (xs : List D)
  | dct (ks vs : List D)
mutual
/-- a tree as a dict's key -/
def nk : D → Option NestedKey
  | .non => some .none
  | .bl b => some (.num (if b = true then 1 else 0))
  | .int i => some (.num i)
  | .str s => some (.text s)
  | .tup ds => (nks ds).map .tup
  | .lst _ => none
  | .ins _ _ => none
  | .wl _ => none
  | .dct _ _ => none
def nks : List D → Option (List NestedKey)
  | [] => some []
  | d :: ds => match nk d, nks ds with
    | some k, some ks => some (k :: ks)
    | _, _ => none
end
/-- a class's address; the exception that a suite holds -/
structure Zx where
  K : PySem.W.Frag
  cl : Nat → Addr
  fl : Nat → List Str
  wd : World
/-- the dict at a has these entries -/
def rawV (w : World) (a : Addr) (xs : List (NestedKey × Value × Value)) (ep : Nat) (h : Heap) : Prop := ∃ o es, h.get? a = some o ∧ o.ExactDict ∧ o.data = .dict es ep ∧ es.toList = xs.map (entV w)
/-- keys, values, entries -/
def Ent3 : List D → List V → List V → List (NestedKey × Value × Value) → Prop
  | [], [], [], [] => True
  | k :: ks, x :: kvs, y :: vvs, e :: xs => nk k = some e.1 ∧ e.1.depth ≤ 8 ∧ notText e.1 = true ∧ RelV x e.2.1 ∧ RelV y e.2.2 ∧ Ent3 ks kvs vvs xs
  | _, _, _, _ => False
/-- a dict's shape -/
def DShape (w : World) (ks : List D) (kvs vvs : List V) (a : Addr) (o : HO) : Prop := (a == sysModules) = false ∧ ks.length ≤ 16777216 ∧ ∃ xs ep, o = .ext (rawV w a xs ep) ∧ Ent3 ks kvs vvs xs ∧ (xs.map (·.1)).Nodup
structure Zy extends Zx where
  hd : Option (Addr × Nat × Option Addr)
mutual
def Rep (Z : Zx) (F : Hp) : D → V → Prop
  | .non, v => v = .non
  | .bl b, v => v = .bl b
  | .int i, v => v = .int i
  | .str s, v => v = .str s
  | .tup ds, v => ∃ a vs, v = .ref a ∧ SqT Z.K F a vs ∧ Reps Z F ds vs
  | .lst ds, v => ∃ a vs, v = .ref a ∧ F a = some (.lst vs) ∧ Reps Z F ds vs
  | .ins c ds, v => ∃ a dx fs, v = .ref a ∧ F a = some (.ins (Z.cl c) dx fs) ∧ fs.map (·.1) = Z.fl c ∧ Reps Z F ds (fs.map (·.2))
  | .wl ds, v => ∃ a vs, v = .ref a ∧ SqL Z.K F a vs ∧ Reps Z F ds vs
  | .dct ks vs, v => ∃ a o kvs vvs, v = .ref a ∧ F a = some o ∧ DShape Z.wd ks kvs vvs a o ∧ Reps Z F ks kvs ∧ Reps Z F vs vvs
def Reps (Z : Zx) (F : Hp) : List D → List V → Prop
  | [], vs => vs = []
  | d :: ds, vs => ∃ v r, vs = v :: r ∧ Rep Z F d v ∧ Reps Z F ds r
end
theorem same_seqT {K : PySem.W.Frag} {H H' : Hp} {a : Addr} {xs : List V} (e : Same H H') (h : SqT K H a xs) : SqT K H' a xs := by
  rcases h with (h | ⟨o, h⟩) | h
  · exact .inl (.inl (e _ _ h))
  · exact .inl (.inr ⟨o, e _ _ h⟩)
  · exact .inr h
section
variable {Z : Zx} {F F' : Hp}
mutual
theorem Rep.mono (e : Same F F') : ∀ {d : D} {v : V}, Rep Z F d v → Rep Z F' d v
  | .non, _, h => h
  | .bl _, _, h => h
  | .int _, _, h => h
  | .str _, _, h => h
  | .tup ds, v, h => by
    unfold Rep at h ⊢
    obtain ⟨a, vs, h1, h2, h3⟩ := h
    exact ⟨a, vs, h1, same_seqT e h2, Reps.mono e h3⟩
  | .lst ds, v, h => by
    unfold Rep at h ⊢
    obtain ⟨a, vs, h1, h2, h3⟩ := h
    exact ⟨a, vs, h1, e _ _ h2, Reps.mono e h3⟩
  | .ins c ds, v, h => by
    unfold Rep at h ⊢
    obtain ⟨a, dx, fs, h1, h2, h3, h4⟩ := h
    exact ⟨a, dx, fs, h1, e _ _ h2, h3, Reps.mono e h4⟩
  | .wl ds, v, h => by
    unfold Rep at h ⊢
    obtain ⟨a, vs, h1, h2, h3⟩ := h
    exact ⟨a, vs, h1, e.seq h2, Reps.mono e h3⟩
  | .dct ks vs, v, h => by
    unfold Rep at h ⊢
    obtain ⟨a, o, kvs, vvs, h1, h2, h3, h4, h5⟩ := h
    exact ⟨a, o, kvs, vvs, h1, e _ _ h2, h3, Reps.mono e h4, Reps.mono e h5⟩
theorem Reps.mono (e : Same F F') : ∀ {ds : List D} {vs : List V}, Reps Z F ds vs → Reps Z F' ds vs
  | [], _, h => h
  | d :: ds, vs, h => by
    unfold Reps at h ⊢
    obtain ⟨v, r, h1, h2, h3⟩ := h
    exact ⟨v, r, h1, Rep.mono e h2, Reps.mono e h3⟩
end
theorem reps_nil : Reps Z F [] [] := by unfold Reps; rfl
theorem reps_cons {d : D} {v : V} {ds : List D} {vs : List V} (h : Rep Z F d v) (h' : Reps Z F ds vs) : Reps Z F (d :: ds) (v :: vs) := by
  unfold Reps
  exact ⟨v, vs, rfl, h, h'⟩
theorem reps_cons_inv {d : D} {ds : List D} {vs : List V} (h : Reps Z F (d :: ds) vs) : ∃ v r, vs = v :: r ∧ Rep Z F d v ∧ Reps Z F ds r := by
  unfold Reps at h
  exact h
theorem reps_nil_inv {vs : List V} (h : Reps Z F [] vs) : vs = [] := by
  unfold Reps at h
  exact h
theorem Reps.length : ∀ {ds : List D} {vs : List V}, Reps Z F ds vs → ds.length = vs.length
  | [], _, h => by
    rw [reps_nil_inv h]
    rfl
  | d :: ds, vs, h => by
    obtain ⟨v, r, rfl, _, h3⟩ := reps_cons_inv h
    simp [Reps.length h3]
theorem Reps.get : ∀ {ds : List D} {vs : List V} {i : Nat} {v : V}, Reps Z F ds vs → vs[i]? = some v → ∃ d, ds[i]? = some d ∧ Rep Z F d v
  | [], _, i, v, h, e => by
    rw [reps_nil_inv h] at e
    simp at e
  | d :: ds, vs, 0, v, h, e => by
    obtain ⟨w, r, rfl, h2, h3⟩ := reps_cons_inv h
    simp at e
    subst e
    exact ⟨d, rfl, h2⟩
  | d :: ds, vs, i + 1, v, h, e => by
    obtain ⟨w, r, rfl, h2, h3⟩ := reps_cons_inv h
    obtain ⟨d', e1, e2⟩ := Reps.get (i := i) h3 (by simpa using e)
    exact ⟨d', by simpa using e1, e2⟩
theorem Reps.get' : ∀ {ds : List D} {vs : List V} {i : Nat} {d : D}, Reps Z F ds vs → ds[i]? = some d → ∃ v, vs[i]? = some v ∧ Rep Z F d v
  | [], _, i, v, h, e => by simp at e
  | d :: ds, vs, 0, v, h, e => by
    obtain ⟨w, r, rfl, h2, h3⟩ := reps_cons_inv h
    simp at e
    subst e
    exact ⟨w, rfl, h2⟩
  | d :: ds, vs, i + 1, v, h, e => by
    obtain ⟨w, r, rfl, h2, h3⟩ := reps_cons_inv h
    obtain ⟨d', e1, e2⟩ := Reps.get' (i := i) h3 (by simpa using e)
    exact ⟨d', by simpa using e1, e2⟩
theorem Reps.append : ∀ {ds es : List D} {vs ws : List V}, Reps Z F ds vs → Reps Z F es ws → Reps Z F (ds ++ es) (vs ++ ws)
  | [], es, vs, ws, h, h' => by
    rw [reps_nil_inv h]
    exact h'
  | d :: ds, es, vs, ws, h, h' => by
    obtain ⟨v, r, rfl, h2, h3⟩ := reps_cons_inv h
    exact reps_cons h2 (Reps.append h3 h')
theorem Reps.take : ∀ {ds : List D} {vs : List V} (n : Nat), Reps Z F ds vs → Reps Z F (ds.take n) (vs.take n)
  | _, _, 0, _ => by simp [reps_nil]
  | [], vs, n + 1, h => by
    rw [reps_nil_inv h]
    simp [reps_nil]
  | d :: ds, vs, n + 1, h => by
    obtain ⟨v, r, rfl, h2, h3⟩ := reps_cons_inv h
    exact reps_cons h2 (Reps.take n h3)
theorem Reps.drop : ∀ {ds : List D} {vs : List V} (n : Nat), Reps Z F ds vs → Reps Z F (ds.drop n) (vs.drop n)
  | _, _, 0, h => by simpa using h
  | [], vs, n + 1, h => by
    rw [reps_nil_inv h]
    simp [reps_nil]
  | d :: ds, vs, n + 1, h => by
    obtain ⟨v, r, rfl, h2, h3⟩ := reps_cons_inv h
    simpa using Reps.drop n h3
theorem Reps.reverse : ∀ {ds : List D} {vs : List V}, Reps Z F ds vs → Reps Z F ds.reverse vs.reverse
  | [], vs, h => by
    rw [reps_nil_inv h]
    simp [reps_nil]
  | d :: ds, vs, h => by
    obtain ⟨v, r, rfl, h2, h3⟩ := reps_cons_inv h
    rw [List.reverse_cons, List.reverse_cons]
    exact Reps.append (Reps.reverse h3) (reps_cons h2 reps_nil)
theorem Reps.set : ∀ {ds : List D} {vs : List V} {d : D} {v : V} (i : Nat), Reps Z F ds vs → Rep Z F d v → Reps Z F (ds.set i d) (vs.set i v)
  | [], vs, _, _, i, h, _ => by
    rw [reps_nil_inv h]
    simp [reps_nil]
  | d :: ds, vs, _, _, 0, h, h' => by
    obtain ⟨v, r, rfl, h2, h3⟩ := reps_cons_inv h
    exact reps_cons h' h3
  | d :: ds, vs, _, _, i + 1, h, h' => by
    obtain ⟨v, r, rfl, h2, h3⟩ := reps_cons_inv h
    exact reps_cons h2 (Reps.set i h3 h')
theorem Reps.eraseIdx : ∀ {ds : List D} {vs : List V} (i : Nat), Reps Z F ds vs → Reps Z F (ds.eraseIdx i) (vs.eraseIdx i)
  | [], vs, i, h => by
    rw [reps_nil_inv h]
    simp [reps_nil]
  | d :: ds, vs, 0, h => by
    obtain ⟨v, r, rfl, h2, h3⟩ := reps_cons_inv h
    simpa using h3
  | d :: ds, vs, i + 1, h => by
    obtain ⟨v, r, rfl, h2, h3⟩ := reps_cons_inv h
    simpa using reps_cons h2 (Reps.eraseIdx i h3)
end
inductive Val where
  | im (d : D) | cell (k : Nat) | exn (c : Nat) (ds : List D)
inductive Cell where
  | dead | lst (ds : List D) | ins (c : Nat) (ds : List D) | ptr (ks : List Nat) | dct (ks vs : List D) | rws (rows : List (List D))
def ExcOk (Z : Zx) (F : Hp) (c : Nat) (ds : List D) (dx : Option Addr) : Prop :=
  (ds = [] ∧ dx = none) ∨ ∃ d fs, dx = some d ∧ F d = some (.xd fs) ∧ fs.map (·.1) = Z.fl c ∧ Reps Z F ds (fs.map (·.2))
/-- at a: an exception made by hand, its dict at dx -/
def xoV (a C : Addr) (dx : Option Addr) : HO := .ext fun h => ∃ (o : Obj) (vs : Array Value), h.get? a = some o ∧ o.cls = .ref C ∧ o.dict = dx ∧ o.data = .fields vs
def VRep (Z : Zy) (A : List Addr) (F : Hp) : Val → V → Prop
  | .im d, v => Rep Z.toZx F d v
  | .cell k, v => ∃ a, A[k]? = some a ∧ v = .ref a
  | .exn c ds, v => (c < 1000 ∧ ∃ a dx, Z.hd = some (a, c, dx) ∧ v = .ref a ∧ ExcOk Z.toZx F c ds dx) ∨ (1000 ≤ c ∧ ∃ a dx, v = .ref a ∧ F a = some (xoV a (Z.cl (c - 1000)) dx) ∧ ExcOk Z.toZx F (c - 1000) ds dx)
/-- the cells ks stand at bs, all below k -/
def PtrL (A : List Addr) (k : Nat) : List Nat → List Addr → Prop
  | [], bs => bs = []
  | j :: js, bs => ∃ b t, bs = b :: t ∧ j < k ∧ A[j]? = some b ∧ PtrL A k js t
/-- rows of their own, at bs: nobody else holds them -/
def RowsOk (Z : Zx) (A : List Addr) (F H : Hp) : List (List D) → List Addr → Prop
  | [], bs => bs = []
  | r :: rs, bs => ∃ b t vs, bs = b :: t ∧ F b = none ∧ b ∉ A ∧ b ∉ t ∧ H b = some (.lst vs) ∧ Reps Z F r vs ∧ RowsOk Z A F H rs t
def CellOk (Z : Zx) (A : List Addr) (F H : Hp) (a : Addr) : Cell → Prop
  | .dead => ∃ o, H a = some o
  | .lst ds => F a = none ∧ ∃ vs, H a = some (.lst vs) ∧ Reps Z F ds vs
  | .ins c ds => F a = none ∧ ∃ dx fs, H a = some (.ins (Z.cl c) dx fs) ∧ fs.map (·.1) = (Z.fl c).take ds.length ∧ Reps Z F ds (fs.map (·.2))
  | .ptr ks => F a = none ∧ ∃ k bs, A[k]? = some a ∧ H a = some (.lst (bs.map V.ref)) ∧ PtrL A k ks bs
  | .dct ks vs => F a = none ∧ ∃ o kvs vvs, H a = some o ∧ DShape Z.wd ks kvs vvs a o ∧ Reps Z F ks kvs ∧ Reps Z F vs vvs
  | .rws rows => F a = none ∧ ∃ bs, H a = some (.lst (bs.map V.ref)) ∧ RowsOk Z A F H rows bs
/-- the store: F what never changes any more, A the cells' addresses -/
structure SO (Z : Zx) (A : List Addr) (F : Hp) (ce : List Cell) (H : Hp) : Prop where
  sub : Same F H
  len : A.length = ce.length
  nd : A.Nodup
  ok : ∀ (k : Nat) (a : Addr) (c : Cell), A[k]? = some a → ce[k]? = some c → CellOk Z A F H a c
abbrev Sl : Type := List (Option Val)
structure SL (Z : Zy) (A : List Addr) (F : Hp) (sl : Sl) (σ : St) : Prop where
  len : sl.length = σ.length
  is : ∀ (i : Nat) (v : Val), sl[i]? = some (some v) → ∃ x, σ[i]? = some (some x) ∧ VRep Z A F v x
section
variable {Z : Zx} {A A' : List Addr} {F F' H : Hp} {ce : List Cell} {sl : Sl} {σ : St}
theorem ExcOk.mono {c ds dx} (e : Same F F') (h : ExcOk Z F c ds dx) : ExcOk Z F' c ds dx := by
  rcases h with h | ⟨d, fs, h1, h2, h3, h4⟩
  · exact .inl h
  · exact .inr ⟨d, fs, h1, e _ _ h2, h3, h4.mono e⟩
theorem pre_get {k : Nat} {a : Addr} (p : A <+: A') (h : A[k]? = some a) : A'[k]? = some a := by
  obtain ⟨t, rfl⟩ := p
  have := (List.getElem?_eq_some_iff.mp h).1
  rw [List.getElem?_append_left this]
  exact h
theorem VRep.mono {Z : Zy} {v : Val} {x : V} (p : A <+: A') (e : Same F F') (h : VRep Z A F v x) : VRep Z A' F' v x := by
  cases v with
  | im d => exact Rep.mono e h
  | cell k =>
    obtain ⟨a, h1, h2⟩ := h
    exact ⟨a, pre_get p h1, h2⟩
  | exn c ds =>
    rcases h with ⟨h0, a, dx, h1, h2, h3⟩ | ⟨h0, a, dx, h1, h2, h3⟩
    · exact .inl ⟨h0, a, dx, h1, h2, h3.mono e⟩
    · exact .inr ⟨h0, a, dx, h1, e _ _ h2, h3.mono e⟩
theorem SL.mono {Z : Zy} (p : A <+: A') (e : Same F F') (h : SL Z A F sl σ) : SL Z A' F' sl σ :=
  ⟨h.len, fun i v q => let ⟨x, h1, h2⟩ := h.is i v q; ⟨x, h1, h2.mono p e⟩⟩
theorem SL.set {Z : Zy} {i : Nat} {v : Val} {x : V} (h : SL Z A F sl σ) (hv : VRep Z A F v x) : SL Z A F (sl.set i (some v)) (σ.set i (some x)) := by
  refine ⟨by simp [h.len], fun j w q => ?_⟩
  by_cases hj : i = j
  · subst hj
    by_cases hl : i < sl.length
    · rw [List.getElem?_set_self hl] at q
      cases q
      refine ⟨x, ?_, hv⟩
      rw [List.getElem?_set_self (by rw [← h.len]; exact hl)]
    · rw [List.getElem?_eq_none (by simpa using hl)] at q
      cases q
  · rw [List.getElem?_set_ne hj] at q
    obtain ⟨y, h1, h2⟩ := h.is j w q
    exact ⟨y, by rw [List.getElem?_set_ne hj]; exact h1, h2⟩
theorem SL.gone {Z : Zy} {i : Nat} (h : SL Z A F sl σ) : SL Z A F (sl.set i none) (σ.set i none) := by
  refine ⟨by simp [h.len], fun j w q => ?_⟩
  by_cases hj : i = j
  · subst hj
    by_cases hl : i < sl.length
    · rw [List.getElem?_set_self hl] at q
      cases q
    · rw [List.getElem?_eq_none (by simpa using hl)] at q
      cases q
  · rw [List.getElem?_set_ne hj] at q
    rw [List.getElem?_set_ne hj]
    exact h.is j w q
theorem SO.tracked (s : SO Z A F ce H) {k : Nat} {a : Addr} (h : A[k]? = some a) : ∃ o, H a = some o := by
  have hl : k < ce.length := by rw [← s.len]; exact (List.getElem?_eq_some_iff.mp h).1
  have := s.ok k a ce[k] h (List.getElem?_eq_getElem hl)
  cases hc : ce[k] with
  | dead => rw [hc] at this; exact this
  | lst ds => rw [hc] at this; obtain ⟨_, vs, h1, _⟩ := this; exact ⟨_, h1⟩
  | ins c ds => rw [hc] at this; obtain ⟨_, dx, fs, h1, _⟩ := this; exact ⟨_, h1⟩
  | ptr ks => rw [hc] at this; obtain ⟨_, k, bs, _, h1, _⟩ := this; exact ⟨_, h1⟩
  | dct ks vs => rw [hc] at this; obtain ⟨_, o, kvs, vvs, h1, _⟩ := this; exact ⟨_, h1⟩
  | rws rows => rw [hc] at this; obtain ⟨_, bs, h1, _⟩ := this; exact ⟨_, h1⟩
theorem RowsOk.mono {H' : Hp} (e : Same F F') (hb : ∀ b, b ∉ A → F b = none → (∃ o, H b = some o) → H' b = H b ∧ F' b = none ∧ b ∉ A') : ∀ {rows : List (List D)} {bs : List Addr}, RowsOk Z A F H rows bs → RowsOk Z A' F' H' rows bs
  | [], bs, h => h
  | r :: rs, bs, ⟨b, t, vs, e1, h1, h2, h3, h4, h5, h6⟩ => by
    obtain ⟨q1, q2, q3⟩ := hb b h2 h1 ⟨_, h4⟩
    exact ⟨b, t, vs, e1, q2, q3, h3, q1.trans h4, h5.mono e, RowsOk.mono e hb h6⟩
theorem PtrL.mono {k : Nat} (p : A <+: A') : ∀ {ks : List Nat} {bs : List Addr}, PtrL A k ks bs → PtrL A' k ks bs
  | [], bs, h => h
  | j :: js, bs, ⟨b, t, e, h1, h2, h3⟩ => ⟨b, t, e, h1, pre_get p h2, PtrL.mono p h3⟩
theorem SO.fnone (s : SO Z A F ce H) {p : Addr} (hp : H p = none) : F p = none := by
  cases e : F p with
  | none => rfl
  | some o => rw [s.sub _ _ e] at hp; cases hp
theorem same_up {p : Addr} {o : HO} (h : F p = none) : Same F (upd F p o) := fun b x e => by
  rw [upd_ne (ne_of_none e h)]
  exact e
theorem CellOk.mono {a : Addr} {c : Cell} {H' : Hp} (p : A <+: A') (e : Same F F') (h : CellOk Z A F H a c) (hH : H' a = H a) (hF : F a = none → F' a = none) (hb : ∀ b, b ∉ A → F b = none → (∃ o, H b = some o) → H' b = H b ∧ F' b = none ∧ b ∉ A') : CellOk Z A' F' H' a c := by
  cases c with
  | dead => obtain ⟨o, h⟩ := h; exact ⟨o, by rw [hH]; exact h⟩
  | lst ds => obtain ⟨h0, vs, h1, h2⟩ := h; exact ⟨hF h0, vs, by rw [hH]; exact h1, h2.mono e⟩
  | ins c ds => obtain ⟨h0, dx, fs, h1, h2, h3⟩ := h; exact ⟨hF h0, dx, fs, by rw [hH]; exact h1, h2, h3.mono e⟩
  | ptr ks => obtain ⟨h0, k, bs, h1, h2, h3⟩ := h; exact ⟨hF h0, k, bs, pre_get p h1, by rw [hH]; exact h2, h3.mono p⟩
  | dct ks vs => obtain ⟨h0, o, kvs, vvs, h1, h2, h3, h4⟩ := h; exact ⟨hF h0, o, kvs, vvs, by rw [hH]; exact h1, h2, h3.mono e, h4.mono e⟩
  | rws rows => obtain ⟨h0, bs, h1, h2⟩ := h; exact ⟨hF h0, bs, by rw [hH]; exact h1, h2.mono e hb⟩
theorem SO.new (s : SO Z A F ce H) {p : Addr} {o : HO} (hp : H p = none) : SO Z A (upd F p o) ce (upd H p o) := by
  have fp := s.fnone hp
  refine ⟨fun b x e => ?_, s.len, s.nd, fun k a c h1 h2 => ?_⟩
  · by_cases hb : b = p
    · subst hb
      rw [upd_same] at e ⊢
      exact e
    · rw [upd_ne hb] at e ⊢
      exact s.sub _ _ e
  · obtain ⟨u, hu⟩ := s.tracked h1
    have hne : a ≠ p := ne_of_none hu hp
    exact (s.ok k a c h1 h2).mono (List.prefix_refl _) (same_up fp) (upd_ne hne) (fun h => by rw [upd_ne hne]; exact h) fun b n1 n2 ⟨o, n3⟩ => have z := ne_of_none n3 hp; ⟨upd_ne z, (upd_ne z).trans n2, n1⟩
theorem SO.newCell (s : SO Z A F ce H) {p : Addr} {o : HO} {c : Cell} (hp : H p = none) (hc : CellOk Z (A ++ [p]) F (upd H p o) p c) : SO Z (A ++ [p]) F (ce ++ [c]) (upd H p o) := by
  refine ⟨fun b x e => ?_, by simp [s.len], ?_, fun k a d h1 h2 => ?_⟩
  · rw [upd_ne (ne_of_none (s.sub _ _ e) hp)]
    exact s.sub _ _ e
  · refine List.nodup_append.mpr ⟨s.nd, by simp, fun a ha b hb e => ?_⟩
    simp at hb
    subst hb
    subst e
    obtain ⟨k, hk⟩ := List.getElem?_of_mem ha
    obtain ⟨u, hu⟩ := s.tracked hk
    rw [hp] at hu
    cases hu
  · by_cases hk : k < A.length
    · rw [List.getElem?_append_left hk] at h1
      rw [List.getElem?_append_left (by rw [← s.len]; exact hk)] at h2
      obtain ⟨u, hu⟩ := s.tracked h1
      exact (s.ok k a d h1 h2).mono (List.prefix_append _ _) (Same.refl _) (upd_ne (ne_of_none hu hp)) id fun b n1 n2 ⟨o, n3⟩ => have z := ne_of_none n3 hp; ⟨upd_ne z, n2, fun y => by rcases List.mem_append.mp y with y | y; exact n1 y; exact z (List.mem_singleton.mp y)⟩
    · rw [List.getElem?_append_right (by omega)] at h1
      rw [List.getElem?_append_right (by rw [← s.len]; omega), ← s.len] at h2
      have : k - A.length = 0 := by
        have := (List.getElem?_eq_some_iff.mp h1).1
        simp at this
        omega
      rw [this] at h1 h2
      simp at h1 h2
      subst h1 h2
      exact hc
theorem SO.write (s : SO Z A F ce H) {k : Nat} {a : Addr} {o : HO} {c : Cell} (hk : A[k]? = some a) (hf : F a = none) (hc : CellOk Z A F (upd H a o) a c) : SO Z A F (ce.set k c) (upd H a o) := by
  refine ⟨fun b x e => ?_, by simp [s.len], s.nd, fun j b d h1 h2 => ?_⟩
  · rw [upd_ne (ne_of_none e hf)]
    exact s.sub _ _ e
  · by_cases hj : k = j
    · subst hj
      rw [hk] at h1
      cases h1
      have hl : k < ce.length := by rw [← s.len]; exact (List.getElem?_eq_some_iff.mp hk).1
      rw [List.getElem?_set_self hl] at h2
      cases h2
      exact hc
    · rw [List.getElem?_set_ne hj] at h2
      have hne : b ≠ a := fun e => by
        subst e
        exact hj ((List.getElem?_inj (List.getElem?_eq_some_iff.mp hk).1 s.nd).mp (hk.trans h1.symm))
      exact (s.ok j b d h1 h2).mono (List.prefix_refl _) (Same.refl _) (upd_ne hne) id fun b n1 n2 n3 => ⟨upd_ne fun z => n1 (by rw [z]; exact List.mem_of_getElem? hk), n2, n1⟩
theorem SO.freeze (s : SO Z A F ce H) {k : Nat} {a : Addr} {o : HO} (hk : A[k]? = some a) (hf : F a = none) (ho : H a = some o) : SO Z A (upd F a o) (ce.set k .dead) H := by
  refine ⟨fun b x e => ?_, by simp [s.len], s.nd, fun j b d h1 h2 => ?_⟩
  · by_cases hb : b = a
    · subst hb
      rw [upd_same] at e
      cases e
      exact ho
    · rw [upd_ne hb] at e
      exact s.sub _ _ e
  · by_cases hj : k = j
    · subst hj
      rw [hk] at h1
      cases h1
      have hl : k < ce.length := by rw [← s.len]; exact (List.getElem?_eq_some_iff.mp hk).1
      rw [List.getElem?_set_self hl] at h2
      cases h2
      exact ⟨o, ho⟩
    · rw [List.getElem?_set_ne hj] at h2
      have hne : b ≠ a := fun e => by
        subst e
        exact hj ((List.getElem?_inj (List.getElem?_eq_some_iff.mp hk).1 s.nd).mp (hk.trans h1.symm))
      exact (s.ok j b d h1 h2).mono (List.prefix_refl _) (same_up hf) rfl (fun h => by rw [upd_ne hne]; exact h) fun b n1 n2 n3 => ⟨rfl, (upd_ne fun z => n1 (by rw [z]; exact List.mem_of_getElem? hk)).trans n2, n1⟩
end
inductive EOut where
  | ok (v : Val) (ce : List Cell) | exc (c : Nat) (ds : List D) (ce : List Cell) | stuck
abbrev DE := Sl → List Cell → EOut
def PostE (Z : Zy) (A : List Addr) (F : Hp) (W : WX) (σ : St) (Q : VK) : EOut → Prop
  | .ok v ce => ∀ A' F' H' x, A <+: A' → Same F F' → SO Z.toZx A' F' ce H' → VRep Z A' F' v x → Q x H'
  | .exc c ds ce => ∀ A' F' H' dx, A <+: A' → Same F F' → SO Z.toZx A' F' ce H' → ExcOk Z.toZx F' c ds dx → W (.ref (Z.cl c)) dx σ H'
  | .stuck => False
def tE (Z : Zy) (W : WX) (f : DE) : TE := fun σ H Q => ∃ A F sl ce, SO Z.toZx A F ce H ∧ SL Z A F sl σ ∧ PostE Z A F W σ Q (f sl ce)
def eBind (f : DE) (k : Val → DE) : DE := fun sl ce => match f sl ce with
  | .ok v ce' => k v sl ce'
  | .exc c ds ce' => .exc c ds ce'
  | .stuck => .stuck
section
variable {Z : Zy} {A A' : List Addr} {F F' H : Hp} {ce : List Cell} {sl : Sl} {σ : St} {W : WX} {Q Q' : VK}
theorem PostE.mono {r : EOut} (p : A <+: A') (e : Same F F') (h : PostE Z A F W σ Q r) : PostE Z A' F' W σ Q r := by
  cases r with
  | ok v ce => exact fun A2 F2 H2 x p2 e2 => h A2 F2 H2 x (p.trans p2) (e.trans e2)
  | exc c ds ce => exact fun A2 F2 H2 x p2 e2 => h A2 F2 H2 x (p.trans p2) (e.trans e2)
  | stuck => exact h
theorem PostE.imp {r : EOut} (hq : ∀ x H, Q x H → Q' x H) (h : PostE Z A F W σ Q r) : PostE Z A F W σ Q' r := by
  cases r with
  | ok v ce => exact fun A2 F2 H2 x p2 e2 s r => hq _ _ (h A2 F2 H2 x p2 e2 s r)
  | exc c ds ce => exact h
  | stuck => exact h
/-- the state behind: grown, with the store -/
theorem PostE.bind {f : DE} {k : Val → DE} (so : SO Z.toZx A F ce H) (hs : SL Z A F sl σ) (h : PostE Z A F W σ Q (eBind f k sl ce)) :
    PostE Z A F W σ (fun x H1 => ∃ A1 F1 ce1 v, A <+: A1 ∧ Same F F1 ∧ SO Z.toZx A1 F1 ce1 H1 ∧ VRep Z A1 F1 v x ∧ PostE Z A1 F1 W σ Q (k v sl ce1)) (f sl ce) := by
  unfold eBind at h
  cases e : f sl ce with
  | ok v ce1 =>
    rw [e] at h
    exact fun A1 F1 H1 x p1 e1 s1 r1 => ⟨A1, F1, ce1, v, p1, e1, s1, r1, PostE.mono p1 e1 h⟩
  | exc c ds ce1 =>
    rw [e] at h
    exact h
  | stuck =>
    rw [e] at h
    exact h.elim
theorem tE_imp {f : DE} (hq : ∀ x H, Q x H → Q' x H) (h : tE Z W f σ H Q) : tE Z W f σ H Q' := by
  obtain ⟨A, F, sl, ce, so, hs, p⟩ := h
  exact ⟨A, F, sl, ce, so, hs, p.imp hq⟩
/-- one operand -/
theorem tE1 {f : DE} {k : Val → DE} (h : tE Z W (eBind f k) σ H Q) :
    tE Z W f σ H fun x H1 => ∃ A F sl ce v, SO Z.toZx A F ce H1 ∧ SL Z A F sl σ ∧ VRep Z A F v x ∧ PostE Z A F W σ Q (k v sl ce) := by
  obtain ⟨A, F, sl, ce, so, hs, p⟩ := h
  refine ⟨A, F, sl, ce, so, hs, (PostE.bind so hs p).imp fun x H1 ⟨A1, F1, ce1, v, p1, e1, s1, r1, q1⟩ => ⟨A1, F1, sl, ce1, v, s1, hs.mono p1 e1, r1, q1⟩⟩
/-- two operands -/
theorem tE2 {f g : DE} {k : Val → Val → DE} (h : tE Z W (eBind f fun v => eBind g (k v)) σ H Q) :
    tE Z W f σ H fun x H1 => tE Z W g σ H1 fun y H2 => ∃ A F sl ce v u, SO Z.toZx A F ce H2 ∧ SL Z A F sl σ ∧ VRep Z A F v x ∧ VRep Z A F u y ∧ PostE Z A F W σ Q (k v u sl ce) := by
  refine tE_imp (fun x H1 ⟨A, F, sl, ce, v, so, hs, r, p⟩ => ?_) (tE1 h)
  refine ⟨A, F, sl, ce, so, hs, (PostE.bind so hs p).imp fun y H2 ⟨A1, F1, ce1, u, p1, e1, s1, r1, q1⟩ => ⟨A1, F1, sl, ce1, v, u, s1, hs.mono p1 e1, r.mono p1 e1, r1, q1⟩⟩
end
theorem _root_.L2.PE.weak {X : Cx} {e : Expr} {t t' : TE} (h : PE X e t) (hw : ∀ σ H Q, t' σ H Q → t σ H Q) : PE X e t' :=
  ⟨fun pins s σ H Q I q => h.run pins s σ H Q I (hw σ H Q q)⟩
theorem _root_.L2.PT.weak {X : Cx} {e : Expr} {t t' : TT} (h : PT X e t) (hw : ∀ σ H Q, t' σ H Q → t σ H Q) : PT X e t' :=
  ⟨fun pins s σ H Q I q => h.run pins s σ H Q I (hw σ H Q q)⟩
theorem _root_.L2.PA.weak {X : Cx} {e : List Expr} {t t' : TA} (h : PA X e t) (hw : ∀ σ H Q, t' σ H Q → t σ H Q) : PA X e t' :=
  ⟨fun pos pins s σ H Q I q => h.run pos pins s σ H Q I (hw σ H Q q)⟩
theorem _root_.L2.PS.weak {X : Cx} {e : Stmt} {t t' : TS} (h : PS X e t) (hw : ∀ D σ H, t' D σ H → t D σ H) : PS X e t' :=
  ⟨fun pins s σ H D I q => h.run pins s σ H D I (hw D σ H q)⟩
theorem _root_.L2.PSs.weak {X : Cx} {e : List Stmt} {t t' : TS} (h : PSs X e t) (hw : ∀ D σ H, t' D σ H → t D σ H) : PSs X e t' :=
  ⟨fun pins s σ H D I q => h.run pins s σ H D I (hw D σ H q)⟩
end ZZ
set_option Elab.async false
set_option linter.all false
set_option maxRecDepth 100000
namespace ZH
open PySem PySem.Spec PyProof.Rows L2 ZZ
abbrev Fr : Type := PySem.W.Frag
theorem ba {a b : Bool} (h : (a && b) = true) : a = true ∧ b = true := Bool.and_eq_true_iff.mp h
abbrev FnO : Type := Option (Str × Str × Arguments × FuncBody × Scope × Addr × List (Str × Addr) × Addr)
def fnO (K : Fr) (a : Addr) : FnO := match K.lookup a with
  | some ⟨_, _, .func fd, _⟩ => some (fd.name, fd.qualname, fd.params, fd.body, fd.scope, fd.globals, fd.closure, fd.builtins)
  | _ => none
structure DefZ where
  a : Addr
  name : Str
  qual : Str
  st : Stmt
  cda : Addr
  clo : List (Str × Addr) := []
  dfl : Option Addr := none
  kwd : Option Addr := none
def DefZ.val (d : DefZ) : FnO := some (d.name, d.qual, defArgs d.st, .stmts (defBody d.st), defScope d.st, mainGlobals, d.clo, builtinsNs)
def vO : Option Addr → Value
  | none => .none
  | some a => .ref a
def DefZ.ok (K : Fr) (d : DefZ) : Bool := PySem.W.keepIn K (.ref d.a) && (match K.lookup d.a with
  | some ⟨_, _, .func fd, _⟩ => PySem.W.codeIn K (.ref d.cda) d.qual && (decide (fd.code = .ref d.cda) && (decide (fd.defaults = vO d.dfl) && decide (fd.kwdefaults = vO d.kwd)))
  | _ => false)
/-- what a def's place holds -/
def FnAt (K : Fr) (d : DefZ) : Prop := ∃ oc od doc pm an ct osl, K.lookup d.a = some ⟨oc, od, .func { name := d.name, qualname := d.qual, params := defArgs d.st, body := .stmts (defBody d.st), scope := defScope d.st, globals := mainGlobals, closure := d.clo, defaults := vO d.dfl, kwdefaults := vO d.kwd, doc, pyModule := pm, annotations := an, code := .ref d.cda, closureTuple := ct, builtins := builtinsNs }, osl⟩ ∧ PySem.W.codeIn K (.ref d.cda) d.qual = true ∧ PySem.W.keepIn K (.ref d.a) = true
theorem fn_at {K : Fr} {d : DefZ} (e : fnO K d.a = d.val) (c : d.ok K = true) : FnAt K d := by
  obtain ⟨kp, c2⟩ := ba c
  unfold fnO at e
  cases q : K.lookup d.a with
  | none =>
    rw [q] at c2
    cases c2
  | some o =>
    obtain ⟨oc, od, dt, osl⟩ := o
    rw [q] at c2 e
    cases dt with
    | func fd =>
      obtain ⟨n1, n2, n3, n4, n5, n6, n7, n8, n9, n10, n11, n12, n13, n14, n15⟩ := fd
      have e2 : (some (n1, n2, n3, n4, n5, n6, n7, n15) : FnO) = some (d.name, d.qual, defArgs d.st, .stmts (defBody d.st), defScope d.st, mainGlobals, d.clo, builtinsNs) := e
      simp only [Option.some.injEq, Prod.mk.injEq] at e2
      obtain ⟨h1, h2, h3, h4, h5, h6, h7, h8⟩ := e2
      subst h1 h2 h3 h4 h5 h6 h7 h8
      obtain ⟨c3, c4⟩ := ba (show (PySem.W.codeIn K (.ref d.cda) d.qual && (decide (n13 = .ref d.cda) && (decide (n8 = vO d.dfl) && decide (n9 = vO d.kwd)))) = true from c2)
      obtain ⟨c5, c6⟩ := ba c4
      obtain ⟨c7, c8⟩ := ba c6
      have e5 := of_decide_eq_true c5
      have e7 := of_decide_eq_true c7
      have e8 := of_decide_eq_true c8
      subst e5 e7 e8
      exact ⟨oc, od, n10, n11, n12, n14, osl, q, c3, kp⟩
    | _ => cases c2
def valD : Value → Option D
  | .str s _ => some (.str s)
  | .int i _ => some (.int i)
  | .none => some .non
  | _ => none
abbrev EnO : Type := Option (Str × Int × Option D)
def enO (e : DictEntry) : EnO := match e.key with
  | .str x _ => some (x, e.hash, valD e.val)
  | _ => none
def enV (P : Params) (q : Str × D) : EnO := some (q.1, PyData.keyHash P q.1, some q.2)
def tbO (K : Fr) (a : Addr) : Option (List EnO) := match K.lookup a with
  | some ⟨.type c, none, .dict es _, sl⟩ => (match decide (c = "dict") && (sl.isEmpty && !(a == sysModules)) with
    | true => some (es.toList.map enO)
    | false => none)
  | _ => none
abbrev Tab : Type := Addr × List (Str × D)
abbrev AlZ : Type := Bool × List FnO × List (Option (List EnO))
abbrev Bs : Type := List (List (Fr → Bool))
def obsZ (bs : Bs) (fn : List DefZ) (tb : List Tab) (K : Fr) : AlZ := ((bs.all fun l => l.all fun f => f K) && fn.all fun d => d.ok K, fn.map (fun d => fnO K d.a), tb.map fun t => tbO K t.1)
def valZ (fn : List DefZ) (tb : List Tab) (w : World) : AlZ := (true, fn.map DefZ.val, tb.map fun t => some (t.2.map (enV w.params)))
def SaysZ (bs : Bs) (fn : List DefZ) (tb : List Tab) (w : World) (K : Fr) : Prop := obsZ bs fn tb K = valZ fn tb w
def obsZG (as : List Addr) (bs : Bs) (fn : List DefZ) (tb : List Tab) (g : Addr → Option Obj) : AlZ := obsZ bs fn tb (He.frG g as)
def hookZ (as : List Addr) (bs : Bs) (fn : List DefZ) (tb : List Tab) : PySem.W.Hook where
  α := AlZ
  obs := fun s => obsZG as bs fn tb s.heap.get?
  val := fun w => valZ fn tb w
  says := fun w h => ∃ K : Fr, K.In h ∧ SaysZ bs fn tb w K
  of := fun _ _ e => ⟨_, He.frG_in, e⟩
  keeps := fun _ _ _ ⟨K, hK, c⟩ k => ⟨K, PySem.W.Frag.In.keeps hK k, c⟩
theorem obsZG_eq {as : List Addr} {bs : Bs} {fn : List DefZ} {tb : List Tab} {g : Addr → Option Obj} {s : Shared} (h : ∀ a, g a = s.heap.get? a) : obsZG as bs fn tb g = (hookZ as bs fn tb).obs s := by
  have e : g = s.heap.get? := funext h
  rw [e] <;> rfl
section
variable {bs : Bs} {fn : List DefZ} {tb : List Tab} {w : World} {K : Fr}
theorem SaysZ.fact (c : SaysZ bs fn tb w K) {i j : Nat} {l : List (Fr → Bool)} {f : Fr → Bool} (h1 : bs[i]? = some l) (h2 : l[j]? = some f) : f K = true := by
  have c1 := (ba (show ((bs.all fun l => l.all fun f => f K) && fn.all fun d => d.ok K) = true from congrArg (fun z : AlZ => z.1) c)).1
  exact List.all_eq_true.mp (List.all_eq_true.mp c1 l (List.mem_of_getElem? h1)) f (List.mem_of_getElem? h2)
theorem SaysZ.dec (c : SaysZ bs fn tb w K) {i j : Nat} {l : List (Fr → Bool)} {p : Prop} [Decidable p] {f : Fr → Bool} (h1 : bs[i]? = some l) (h2 : l[j]? = some f) (e : f K = decide p) : p := of_decide_eq_true (e.symm.trans (c.fact h1 h2))
theorem SaysZ.fns (c : SaysZ bs fn tb w K) {i : Nat} {d : DefZ} (h : fn[i]? = some d) : FnAt K d := by
  have c2 := (ba (show ((bs.all fun l => l.all fun f => f K) && fn.all fun d => d.ok K) = true from congrArg (fun z : AlZ => z.1) c)).2
  have e : fn.map (fun d => fnO K d.a) = fn.map DefZ.val := congrArg (fun z : AlZ => z.2.1) c
  have e2 : (fn.map fun d => fnO K d.a)[i]? = (fn.map DefZ.val)[i]? := by rw [e]
  rw [List.getElem?_map, List.getElem?_map, h] at e2
  exact fn_at (Option.some.inj e2) (List.all_eq_true.mp c2 d (List.mem_of_getElem? h))
end
/-- defaults: a tuple of these -/
def relFB : D → Value → Bool
  | .int i, .int j _ => decide (i = j)
  | .str s, .str t _ => decide (s = t)
  | .non, .none => true
  | .bl b, .bool c => b == c
  | _, _ => false
def relFsB : List D → List Value → Bool
  | [], [] => true
  | d :: ds, u :: us => relFB d u && relFsB ds us
  | _, _ => false
/-- the tuple at a -/
def tupB (K : Fr) (a : Addr) (ds : List D) : Bool := match K.lookup a with
  | some ⟨.type c, _, .seq its _, _⟩ => decide (c = "tuple") && (decide (its.size ≤ 1000) && relFsB ds its.toList)
  | _ => false
def dflZ (K : Fr) : Option Addr → List D → Bool
  | none, [] => true
  | some a, d :: ds => tupB K a (d :: ds)
  | _, _ => false
def kwdZ (K : Fr) : Option Addr → List (Str × D) → Bool
  | _, [] => true
  | some a, q :: qs => (q :: qs).all fun q => (match PySem.W.nsIn K a q.1 with
    | some (some u) => relFB q.2 u
    | _ => false)
  | none, _ :: _ => false
def excB (K : Fr) (C : Addr) : Bool := match K.lookup C with
  | some ⟨.type t, _, .cls cd, sl⟩ => decide (t = "type") && (cd.hasDict && (!cd.hasDel && ((match cd.mro with
    | .ref c :: bm => decide (c = C) && PySem.HandSPX.refsVE bm
    | _ => false) && (match sl.toList with
    | [_, _, _, _, some (.builtin id), _] => decide (id = "ValueError.__new__")
    | _ => false))))
  | _ => false
/-- a record's head -/
def recB (K : Fr) (p : Addr) (T : String) (v : Addr) : Bool := match PySem.W.recIn K p T with
  | some (.ref u :: _) => decide (u = v)
  | _ => false
def strB (K : Fr) (x s : Str) : Bool := match PySem.W.nsIn K mainGlobals x with
  | some (some (.str y _)) => decide (y = s)
  | _ => false
/-- a class's constant, read off the class -/
def cvB (K : Fr) (C : Addr) (a : Str) (d : D) : Bool := match PySem.W.findCls K (.ref C) (.type "type") a with
  | some (.val u) => relFB d u
  | _ => false
theorem map_trip {α β δ γ : Type} {e : Option γ} {f : γ → α} {g : γ → β} {k : γ → δ} {a : α} {b : β} {c : δ} (h1 : e.map (fun s => (f s, g s)) = some (a, b)) (h2 : e.map k = some c) : e.map (fun s => (f s, g s, k s)) = some (a, b, c) := by
  cases e with
  | none => cases h1
  | some s => cases h1; cases h2; rfl
end ZH
set_option Elab.async false
set_option linter.all false
set_option maxRecDepth 100000
set_option maxHeartbeats 4000000
namespace ZZ
open PySem PySem.Spec L2
def top (i : Nat) : Stmt := PySem.Challenge.pw_siltmeet_k03_core_made.main.body.getD i (.Pass ⟨0, 0, 0, 0⟩)
abbrev s_Core___iter__ : Stmt := inClass (top 19) 5
abbrev s_BadLayer___init__ : Stmt := inClass (top 3) 0
abbrev s_BadJoint___init__ : Stmt := inClass (top 4) 0
abbrev s_NoLayer___init__ : Stmt := inClass (top 5) 0
abbrev s_NoJoint___init__ : Stmt := inClass (top 6) 0
abbrev s_is_layer : Stmt := top 11
abbrev n_is_layer : List Str := ["layer", "kind", "thickness", "char"]
abbrev s_is_joint : Stmt := top 12
abbrev n_is_joint : List Str := ["joint", "least", "most"]
abbrev s_written_layer : Stmt := top 16
abbrev n_written_layer : List Str := ["layer"]
abbrev s_written_joint : Stmt := top 17
abbrev n_written_joint : List Str := ["joint", "least", "most"]
abbrev s_joined_joint : Stmt := top 18
abbrev n_joined_joint : List Str := ["lower", "upper"]
abbrev s_Core___init__ : Stmt := inClass (top 19) 1
abbrev n_Core___init__ : List Str := ["self", "layers", "joints", "index", "layer", "joint"]
abbrev s_Core___len__ : Stmt := inClass (top 19) 4
abbrev n_Core___len__ : List Str := ["self"]
abbrev s_Core___getitem__ : Stmt := inClass (top 19) 6
abbrev n_Core___getitem__ : List Str := ["self", "k"]
abbrev s_Core___eq__ : Stmt := inClass (top 19) 7
abbrev n_Core___eq__ : List Str := ["self", "other"]
abbrev s_Core_joint : Stmt := inClass (top 19) 8
abbrev n_Core_joint : List Str := ["self", "k"]
abbrev s_Core_thickness : Stmt := inClass (top 19) 9
abbrev n_Core_thickness : List Str := ["self", "layer"]
abbrev s_Core_written : Stmt := inClass (top 19) 3
abbrev n_Core_written : List Str := ["self", "words", "layer", "joint"]
abbrev s_Core___add__ : Stmt := inClass (top 19) 10
abbrev n_Core___add__ : List Str := ["self", "other", "middle"]
abbrev s_Core___invert__ : Stmt := inClass (top 19) 11
abbrev n_Core___invert__ : List Str := ["self"]
abbrev s_Core_turned : Stmt := inClass (top 19) 12
abbrev n_Core_turned : List Str := ["self", "first", "last", "layers", "joints"]
abbrev s_Core_narrowed : Stmt := inClass (top 19) 13
abbrev n_Core_narrowed : List Str := ["self", "joint", "least", "most", "low", "high", "joints"]
abbrev s_bare_core : Stmt := top 20
abbrev n_bare_core : List Str := ["kinds", "kind"]
abbrev s__law_mix : Stmt := top 22
abbrev n__law_mix : List Str := ["_law_cell", "_law_turn", "_law_number_here"]
abbrev s__law_pool : Stmt := top 23
abbrev n__law_pool : List Str := ["_law_script", "_law_many_here", "_law_pool_here", "_law_seed", "_law_k", "_law_rest", "_law_great", "_law_turn"]
abbrev s__law_draw : Stmt := top 24
abbrev n__law_draw : List Str := ["_law_pool_here", "_law_bound"]
abbrev s__law_number : Stmt := top 25
abbrev n__law_number : List Str := ["_law_pool_here", "_law_shape", "_law_number_here", "_law_turn"]
abbrev s__law_word : Stmt := top 26
abbrev n__law_word : List Str := ["_law_pool_here", "_law_word_here", "_law_k"]
abbrev s__law_bounds : Stmt := top 27
abbrev n__law_bounds : List Str := ["_law_pool_here", "_law_low", "_law_high"]
abbrev s__law_whole : Stmt := top 28
abbrev n__law_whole : List Str := ["_law_number_here"]
abbrev s__law_same : Stmt := top 29
abbrev n__law_same : List Str := ["_law_core", "_law_layers", "_law_joints", "_law_total", "_law_k", "_law_layer", "_law_joint"]
abbrev s__law_odd_layer : Stmt := top 30
abbrev n__law_odd_layer : List Str := ["_law_number_here", "_law_layers"]
abbrev s__law_odd_joint : Stmt := top 31
abbrev n__law_odd_joint : List Str := ["_law_number_here", "_law_joints"]
abbrev s__law_valid : Stmt := top 32
abbrev n__law_valid : List Str := ["_law_layer", "_law_char_here"]
abbrev s__law_due : Stmt := top 33
abbrev n__law_due : List Str := ["_law_layers", "_law_joints", "_law_k"]
abbrev s__law_got : Stmt := top 34
abbrev n__law_got : List Str := ["_law_layers", "_law_joints", "e"]
abbrev s__law_base : Stmt := top 35
abbrev n__law_base : List Str := ["_law_layers", "_law_joints", "_law_word_here", "e"]
abbrev s__law_char : Stmt := top 36
abbrev n__law_char : List Str := ["_law_number_here", "_law_chars"]
abbrev s__law_signs : Stmt := top 37
abbrev n__law_signs : List Str := ["_law_pool_here", "_law_kind", "_law_place", "_law_char_here", "_law_at", "_law_layer", "_law_due_here"]
abbrev s__law_counts : Stmt := top 38
abbrev n__law_counts : List Str := ["_law_pool_here", "_law_kinds", "_law_layers", "_law_many_here", "_law_low", "_law_joint", "_law_kind"]
abbrev s__law_many : Stmt := top 39
abbrev n__law_many : List Str := ["_law_kinds", "_law_a", "_law_b", "_law_c", "_law_layers", "_law_told", "e", "_law_kind"]
abbrev s__law_open : Stmt := top 40
abbrev n__law_open : List Str := ["_law_kinds", "_law_layers", "_law_one", "_law_due_here", "_law_turned", "_law_kind"]
abbrev s__law_bare : Stmt := top 41
abbrev n__law_bare : List Str := ["_law_kinds", "_law_layers", "e", "_law_kind"]
abbrev s_law : Stmt := top 42
abbrev n_law : List Str := ["_law_script", "_law_pool_here", "_law_size", "_law_layers", "_law_joints", "_law_turn", "_law_kinds", "_law_due_here", "_law_got_here", "_law_handed", "_law_cores", "_law_bounds_here", "_law_core", "_law_k"]
end ZZ
set_option Elab.async false
set_option linter.all false
set_option maxRecDepth 100000
set_option maxHeartbeats 4000000
namespace ZZ
open PySem PySem.Spec L2
open ZH PyProof.Rows
abbrev dz_0 : DefZ := { a := 139, name := "is_layer", qual := "is_layer", st := s_is_layer, cda := 138, clo := [], dfl := none, kwd := none }
abbrev dz_1 : DefZ := { a := 146, name := "is_joint", qual := "is_joint", st := s_is_joint, cda := 145, clo := [], dfl := none, kwd := none }
abbrev dz_2 : DefZ := { a := 172, name := "written_layer", qual := "written_layer", st := s_written_layer, cda := 171, clo := [], dfl := none, kwd := none }
abbrev dz_3 : DefZ := { a := 179, name := "written_joint", qual := "written_joint", st := s_written_joint, cda := 178, clo := [], dfl := none, kwd := none }
abbrev dz_4 : DefZ := { a := 186, name := "joined_joint", qual := "joined_joint", st := s_joined_joint, cda := 185, clo := [], dfl := none, kwd := none }
abbrev dz_5 : DefZ := { a := 201, name := "__init__", qual := "Core.__init__", st := s_Core___init__, cda := 200, clo := [], dfl := (some 194), kwd := none }
abbrev dz_6 : DefZ := { a := 225, name := "__len__", qual := "Core.__len__", st := s_Core___len__, cda := 224, clo := [], dfl := none, kwd := none }
abbrev dz_7 : DefZ := { a := 239, name := "__getitem__", qual := "Core.__getitem__", st := s_Core___getitem__, cda := 238, clo := [], dfl := none, kwd := none }
abbrev dz_8 : DefZ := { a := 246, name := "__eq__", qual := "Core.__eq__", st := s_Core___eq__, cda := 245, clo := [], dfl := none, kwd := none }
abbrev dz_9 : DefZ := { a := 253, name := "joint", qual := "Core.joint", st := s_Core_joint, cda := 252, clo := [], dfl := none, kwd := none }
abbrev dz_10 : DefZ := { a := 258, name := "thickness", qual := "Core.thickness", st := s_Core_thickness, cda := 257, clo := [], dfl := none, kwd := none }
abbrev dz_11 : DefZ := { a := 218, name := "written", qual := "Core.written", st := s_Core_written, cda := 217, clo := [], dfl := none, kwd := none }
abbrev dz_12 : DefZ := { a := 266, name := "__add__", qual := "Core.__add__", st := s_Core___add__, cda := 265, clo := [], dfl := none, kwd := none }
abbrev dz_13 : DefZ := { a := 273, name := "__invert__", qual := "Core.__invert__", st := s_Core___invert__, cda := 272, clo := [], dfl := none, kwd := none }
abbrev dz_14 : DefZ := { a := 280, name := "turned", qual := "Core.turned", st := s_Core_turned, cda := 279, clo := [], dfl := none, kwd := none }
abbrev dz_15 : DefZ := { a := 288, name := "narrowed", qual := "Core.narrowed", st := s_Core_narrowed, cda := 287, clo := [], dfl := none, kwd := (some 281) }
abbrev dz_16 : DefZ := { a := 300, name := "bare_core", qual := "bare_core", st := s_bare_core, cda := 299, clo := [], dfl := none, kwd := none }
abbrev dz_17 : DefZ := { a := 307, name := "_law_mix", qual := "_law_mix", st := s__law_mix, cda := 306, clo := [], dfl := none, kwd := none }
abbrev dz_18 : DefZ := { a := 314, name := "_law_pool", qual := "_law_pool", st := s__law_pool, cda := 313, clo := [], dfl := none, kwd := none }
abbrev dz_19 : DefZ := { a := 321, name := "_law_draw", qual := "_law_draw", st := s__law_draw, cda := 320, clo := [], dfl := none, kwd := none }
abbrev dz_20 : DefZ := { a := 328, name := "_law_number", qual := "_law_number", st := s__law_number, cda := 327, clo := [], dfl := none, kwd := none }
abbrev dz_21 : DefZ := { a := 335, name := "_law_word", qual := "_law_word", st := s__law_word, cda := 334, clo := [], dfl := none, kwd := none }
abbrev dz_22 : DefZ := { a := 342, name := "_law_bounds", qual := "_law_bounds", st := s__law_bounds, cda := 341, clo := [], dfl := none, kwd := none }
abbrev dz_23 : DefZ := { a := 349, name := "_law_whole", qual := "_law_whole", st := s__law_whole, cda := 348, clo := [], dfl := none, kwd := none }
abbrev dz_24 : DefZ := { a := 354, name := "_law_same", qual := "_law_same", st := s__law_same, cda := 353, clo := [], dfl := none, kwd := none }
abbrev dz_25 : DefZ := { a := 361, name := "_law_odd_layer", qual := "_law_odd_layer", st := s__law_odd_layer, cda := 360, clo := [], dfl := none, kwd := none }
abbrev dz_26 : DefZ := { a := 368, name := "_law_odd_joint", qual := "_law_odd_joint", st := s__law_odd_joint, cda := 367, clo := [], dfl := none, kwd := none }
abbrev dz_27 : DefZ := { a := 375, name := "_law_valid", qual := "_law_valid", st := s__law_valid, cda := 374, clo := [], dfl := none, kwd := none }
abbrev dz_28 : DefZ := { a := 382, name := "_law_due", qual := "_law_due", st := s__law_due, cda := 381, clo := [], dfl := none, kwd := none }
abbrev dz_29 : DefZ := { a := 389, name := "_law_got", qual := "_law_got", st := s__law_got, cda := 388, clo := [], dfl := none, kwd := none }
abbrev dz_30 : DefZ := { a := 396, name := "_law_base", qual := "_law_base", st := s__law_base, cda := 395, clo := [], dfl := none, kwd := none }
abbrev dz_31 : DefZ := { a := 403, name := "_law_char", qual := "_law_char", st := s__law_char, cda := 402, clo := [], dfl := none, kwd := none }
abbrev dz_32 : DefZ := { a := 410, name := "_law_signs", qual := "_law_signs", st := s__law_signs, cda := 409, clo := [], dfl := none, kwd := none }
abbrev dz_33 : DefZ := { a := 415, name := "_law_counts", qual := "_law_counts", st := s__law_counts, cda := 414, clo := [], dfl := none, kwd := none }
abbrev dz_34 : DefZ := { a := 420, name := "_law_many", qual := "_law_many", st := s__law_many, cda := 419, clo := [], dfl := none, kwd := none }
abbrev dz_35 : DefZ := { a := 425, name := "_law_open", qual := "_law_open", st := s__law_open, cda := 424, clo := [], dfl := none, kwd := none }
abbrev dz_36 : DefZ := { a := 430, name := "_law_bare", qual := "_law_bare", st := s__law_bare, cda := 429, clo := [], dfl := none, kwd := none }
abbrev dz_37 : DefZ := { a := 435, name := "law", qual := "law", st := s_law, cda := 434, clo := [], dfl := none, kwd := none }
abbrev dz_38 : DefZ := { a := 232, name := "__iter__", qual := "Core.__iter__", st := s_Core___iter__, cda := 231, clo := [], dfl := none, kwd := none }
abbrev dz_39 : DefZ := { a := 53, name := "__init__", qual := "BadLayer.__init__", st := s_BadLayer___init__, cda := 52, clo := [], dfl := none, kwd := none }
abbrev dz_40 : DefZ := { a := 72, name := "__init__", qual := "BadJoint.__init__", st := s_BadJoint___init__, cda := 71, clo := [], dfl := none, kwd := none }
abbrev dz_41 : DefZ := { a := 91, name := "__init__", qual := "NoLayer.__init__", st := s_NoLayer___init__, cda := 90, clo := [], dfl := none, kwd := none }
abbrev dz_42 : DefZ := { a := 110, name := "__init__", qual := "NoJoint.__init__", st := s_NoJoint___init__, cda := 109, clo := [], dfl := none, kwd := none }
abbrev dz_43 : DefZ := { a := 435, name := "law", qual := "law", st := s_law, cda := 434, clo := [], dfl := none, kwd := none }
abbrev fnl : List DefZ := [dz_0, dz_1, dz_2, dz_3, dz_4, dz_5, dz_6, dz_7, dz_8, dz_9, dz_10, dz_11, dz_12, dz_13, dz_14, dz_15, dz_16, dz_17, dz_18, dz_19, dz_20, dz_21, dz_22, dz_23, dz_24, dz_25, dz_26, dz_27, dz_28, dz_29, dz_30, dz_31, dz_32, dz_33, dz_34, dz_35, dz_36, dz_37, dz_38, dz_39, dz_40, dz_41, dz_42, dz_43]
def fb_0 : List (Fr → Bool) := [fun K => decide (PySem.W.nsIn K mainGlobals "ValueError" = some none),
  fun K => decide (PySem.W.nsIn K mainGlobals "abs" = some none),
  fun K => decide (PySem.W.nsIn K mainGlobals "all" = some none),
  fun K => decide (PySem.W.nsIn K mainGlobals "bool" = some none),
  fun K => decide (PySem.W.nsIn K mainGlobals "enumerate" = some none),
  fun K => decide (PySem.W.nsIn K mainGlobals "int" = some none),
  fun K => decide (PySem.W.nsIn K mainGlobals "isinstance" = some none),
  fun K => decide (PySem.W.nsIn K mainGlobals "len" = some none),
  fun K => decide (PySem.W.nsIn K mainGlobals "list" = some none),
  fun K => decide (PySem.W.nsIn K mainGlobals "min" = some none),
  fun K => decide (PySem.W.nsIn K mainGlobals "range" = some none),
  fun K => decide (PySem.W.nsIn K mainGlobals "sum" = some none),
  fun K => decide (PySem.W.nsIn K mainGlobals "tuple" = some none),
  fun K => decide (PySem.W.nsIn K mainGlobals "zip" = some none),
  fun K => decide (PySem.W.nsIn K mainGlobals "is_layer" = some (some (.ref 139))),
  fun K => decide (PySem.W.nsIn K mainGlobals "is_joint" = some (some (.ref 146))),
  fun K => decide (PySem.W.nsIn K mainGlobals "written_layer" = some (some (.ref 172))),
  fun K => decide (PySem.W.nsIn K mainGlobals "written_joint" = some (some (.ref 179))),
  fun K => decide (PySem.W.nsIn K mainGlobals "joined_joint" = some (some (.ref 186))),
  fun K => dflZ K dz_5.dfl [.non],
  fun K => decide (PySem.W.findIn K (.ref 291) "__len__" = some (some (.ref 225))),
  fun K => PySem.W.isFn K (.ref 225),
  fun K => decide (PySem.W.findIn K (.ref 291) "__getitem__" = some (some (.ref 239))),
  fun K => PySem.W.isFn K (.ref 239),
  fun K => PySem.W.keepIn K (.ref 239)]
def fb_1 : List (Fr → Bool) := [fun K => PySem.W.selfFirst K 291,
  fun K => decide (PySem.W.findIn K (.ref 291) "__eq__" = some (some (.ref 246))),
  fun K => PySem.W.isFn K (.ref 246),
  fun K => decide (PySem.W.findIn K (.ref 291) "joint" = some (some (.ref 253))),
  fun K => PySem.W.isFn K (.ref 253),
  fun K => PySem.W.keepIn K (.ref 253),
  fun K => decide (PySem.W.findIn K (.ref 291) "thickness" = some (some (.ref 259))),
  fun K => decide (PySem.W.specialIn K (.ref 259) "__get__" = some (some (.builtin "property.__get__"))),
  fun K => decide (PySem.W.takesIn K (.ref 259) = some true),
  fun K => recB K 259 "property" 258,
  fun K => decide (PySem.W.findIn K (.ref 291) "written" = some (some (.ref 218))),
  fun K => PySem.W.isFn K (.ref 218),
  fun K => PySem.W.keepIn K (.ref 218),
  fun K => decide (PySem.W.findIn K (.ref 291) "__add__" = some (some (.ref 266))),
  fun K => PySem.W.isFn K (.ref 266),
  fun K => decide (PySem.W.findIn K (.ref 291) "__invert__" = some (some (.ref 273))),
  fun K => PySem.W.isFn K (.ref 273),
  fun K => decide (PySem.W.findIn K (.ref 291) "turned" = some (some (.ref 280))),
  fun K => PySem.W.isFn K (.ref 280),
  fun K => PySem.W.keepIn K (.ref 280),
  fun K => kwdZ K dz_15.kwd [("least", .int 0), ("most", .non)],
  fun K => decide (PySem.W.findIn K (.ref 291) "narrowed" = some (some (.ref 288))),
  fun K => PySem.W.isFn K (.ref 288),
  fun K => PySem.W.keepIn K (.ref 288),
  fun K => decide (PySem.W.nsIn K mainGlobals "bare_core" = some (some (.ref 300)))]
def fb_2 : List (Fr → Bool) := [fun K => decide (PySem.W.nsIn K mainGlobals "_law_mix" = some (some (.ref 307))),
  fun K => decide (PySem.W.nsIn K mainGlobals "_law_pool" = some (some (.ref 314))),
  fun K => decide (PySem.W.nsIn K mainGlobals "_law_draw" = some (some (.ref 321))),
  fun K => decide (PySem.W.nsIn K mainGlobals "_law_number" = some (some (.ref 328))),
  fun K => decide (PySem.W.nsIn K mainGlobals "_law_word" = some (some (.ref 335))),
  fun K => decide (PySem.W.nsIn K mainGlobals "_law_bounds" = some (some (.ref 342))),
  fun K => decide (PySem.W.nsIn K mainGlobals "_law_whole" = some (some (.ref 349))),
  fun K => decide (PySem.W.nsIn K mainGlobals "_law_same" = some (some (.ref 354))),
  fun K => decide (PySem.W.nsIn K mainGlobals "_law_odd_layer" = some (some (.ref 361))),
  fun K => decide (PySem.W.nsIn K mainGlobals "_law_odd_joint" = some (some (.ref 368))),
  fun K => decide (PySem.W.nsIn K mainGlobals "_law_valid" = some (some (.ref 375))),
  fun K => decide (PySem.W.nsIn K mainGlobals "_law_due" = some (some (.ref 382))),
  fun K => decide (PySem.W.nsIn K mainGlobals "_law_got" = some (some (.ref 389))),
  fun K => decide (PySem.W.nsIn K mainGlobals "_law_base" = some (some (.ref 396))),
  fun K => decide (PySem.W.nsIn K mainGlobals "_law_char" = some (some (.ref 403))),
  fun K => decide (PySem.W.nsIn K mainGlobals "_law_signs" = some (some (.ref 410))),
  fun K => decide (PySem.W.nsIn K mainGlobals "_law_counts" = some (some (.ref 415))),
  fun K => decide (PySem.W.nsIn K mainGlobals "_law_many" = some (some (.ref 420))),
  fun K => decide (PySem.W.nsIn K mainGlobals "_law_open" = some (some (.ref 425))),
  fun K => decide (PySem.W.nsIn K mainGlobals "_law_bare" = some (some (.ref 430))),
  fun K => decide (PySem.W.nsIn K mainGlobals "law" = some (some (.ref 435))),
  fun K => decide (PySem.W.nsIn K mainGlobals "Core" = some (some (.ref 291))),
  fun K => PySem.W.plainGet K 291 Str.empty,
  fun K => PySem.W.hasDictIn K 291,
  fun K => PySem.W.plainOver K 291]
def fb_3 : List (Fr → Bool) := [fun K => decide (PySem.W.findIn K (.ref 291) "__setattr__" = some (some (.builtin "object.__setattr__"))),
  fun K => decide (PySem.W.findIn K (.ref 291) "layers" = some none),
  fun K => decide (PySem.W.findIn K (.ref 291) "joints" = some none),
  fun K => PySem.W.makesIn K 291,
  fun K => decide (PySem.W.findIn K (.ref 291) "__init__" = some (some (.ref 201))),
  fun K => PySem.W.isFn K (.ref 201),
  fun K => PySem.W.keepIn K (.ref 291),
  fun K => decide (PySem.W.nsIn K mainGlobals "SiltError" = some (some (.ref 24))),
  fun K => strB K "LETTERS" "abcdefghijklmnopqrstuvwxyz",
  fun K => decide (PySem.W.findIn K (.ref 291) "__getitem__" = some (some (.ref 239))),
  fun K => PySem.W.isFn K (.ref 239),
  fun K => PySem.W.fnIn K 239,
  fun K => PySem.W.readsIn K 291 (.type "type"),
  fun K => decide (PySem.W.specialIn K (.ref 291) "__getattribute__" = some (some (.builtin "type.__getattribute__"))),
  fun K => cvB K 291 "MOST" (.int 20),
  fun K => decide (PySem.W.nsIn K mainGlobals "iter" = some none),
  fun K => decide (PySem.W.findIn K (.ref 291) "__iter__" = some (some (.ref 232))),
  fun K => PySem.W.isFn K (.ref 232),
  fun K => decide (PySem.W.nsIn K mainGlobals "BadCore" = some (some (.ref 37))),
  fun K => PySem.W.keepIn K (.ref 37),
  fun K => decide (PySem.W.subIn K (.ref 37) (.type "BaseException") = some true),
  fun K => decide (PySem.W.typeIn K (.ref 37) = some (.type "type")),
  fun K => PySem.W.excIn K 37 [.type "ValueError", .type "Exception", .type "BaseException", .type "object"] "ValueError.__new__",
  fun K => decide (PySem.W.nsIn K mainGlobals "BadLayer" = some (some (.ref 56))),
  fun K => PySem.W.keepIn K (.ref 56)]
def fb_4 : List (Fr → Bool) := [fun K => decide (PySem.W.subIn K (.ref 56) (.type "BaseException") = some true),
  fun K => decide (PySem.W.typeIn K (.ref 56) = some (.type "type")),
  fun K => decide (PySem.W.findIn K (.ref 56) "__setattr__" = some (some (.builtin "object.__setattr__"))),
  fun K => excB K 56,
  fun K => decide (PySem.W.findIn K (.ref 56) "__init__" = some (some (.ref 53))),
  fun K => decide (PySem.W.typeIn K (.ref 53) = some (.type "function")),
  fun K => decide (PySem.W.findIn K (.ref 56) "index" = some none),
  fun K => decide (PySem.W.nsIn K mainGlobals "BadJoint" = some (some (.ref 75))),
  fun K => PySem.W.keepIn K (.ref 75),
  fun K => decide (PySem.W.subIn K (.ref 75) (.type "BaseException") = some true),
  fun K => decide (PySem.W.typeIn K (.ref 75) = some (.type "type")),
  fun K => decide (PySem.W.findIn K (.ref 75) "__setattr__" = some (some (.builtin "object.__setattr__"))),
  fun K => excB K 75,
  fun K => decide (PySem.W.findIn K (.ref 75) "__init__" = some (some (.ref 72))),
  fun K => decide (PySem.W.typeIn K (.ref 72) = some (.type "function")),
  fun K => decide (PySem.W.findIn K (.ref 75) "index" = some none),
  fun K => decide (PySem.W.nsIn K mainGlobals "NoLayer" = some (some (.ref 94))),
  fun K => PySem.W.keepIn K (.ref 94),
  fun K => decide (PySem.W.subIn K (.ref 94) (.type "BaseException") = some true),
  fun K => decide (PySem.W.typeIn K (.ref 94) = some (.type "type")),
  fun K => decide (PySem.W.findIn K (.ref 94) "__setattr__" = some (some (.builtin "object.__setattr__"))),
  fun K => excB K 94,
  fun K => decide (PySem.W.findIn K (.ref 94) "__init__" = some (some (.ref 91))),
  fun K => decide (PySem.W.typeIn K (.ref 91) = some (.type "function")),
  fun K => decide (PySem.W.findIn K (.ref 94) "index" = some none)]
def fb_5 : List (Fr → Bool) := [fun K => decide (PySem.W.nsIn K mainGlobals "NoJoint" = some (some (.ref 113))),
  fun K => PySem.W.keepIn K (.ref 113),
  fun K => decide (PySem.W.subIn K (.ref 113) (.type "BaseException") = some true),
  fun K => decide (PySem.W.typeIn K (.ref 113) = some (.type "type")),
  fun K => decide (PySem.W.findIn K (.ref 113) "__setattr__" = some (some (.builtin "object.__setattr__"))),
  fun K => excB K 113,
  fun K => decide (PySem.W.findIn K (.ref 113) "__init__" = some (some (.ref 110))),
  fun K => decide (PySem.W.typeIn K (.ref 110) = some (.type "function")),
  fun K => decide (PySem.W.findIn K (.ref 113) "index" = some none),
  fun K => decide (PySem.W.specialIn K (.builtin "object.__class__") "__get__" = some (some (.builtin "getset_descriptor.__get__"))),
  fun K => decide (PySem.W.takesIn K (.builtin "object.__class__") = some true),
  fun K => decide (PySem.W.findIn K (.ref 37) "__getattribute__" = some (some (.builtin "BaseException.__getattribute__"))),
  fun K => decide (PySem.W.findIn K (.ref 37) "__getattr__" = some none),
  fun K => PySem.W.hasDictIn K 37,
  fun K => decide (PySem.W.findIn K (.ref 37) "__class__" = some (some (.builtin "object.__class__"))),
  fun K => decide (PySem.W.mroIn K 37 (.type "object") = some true),
  fun K => decide (PySem.W.findIn K (.ref 56) "__getattribute__" = some (some (.builtin "BaseException.__getattribute__"))),
  fun K => decide (PySem.W.findIn K (.ref 56) "__getattr__" = some none),
  fun K => PySem.W.hasDictIn K 56,
  fun K => decide (PySem.W.findIn K (.ref 56) "__class__" = some (some (.builtin "object.__class__"))),
  fun K => decide (PySem.W.mroIn K 56 (.type "object") = some true),
  fun K => decide (PySem.W.findIn K (.ref 75) "__getattribute__" = some (some (.builtin "BaseException.__getattribute__"))),
  fun K => decide (PySem.W.findIn K (.ref 75) "__getattr__" = some none),
  fun K => PySem.W.hasDictIn K 75,
  fun K => decide (PySem.W.findIn K (.ref 75) "__class__" = some (some (.builtin "object.__class__")))]
def fb_6 : List (Fr → Bool) := [fun K => decide (PySem.W.mroIn K 75 (.type "object") = some true),
  fun K => decide (PySem.W.findIn K (.ref 94) "__getattribute__" = some (some (.builtin "BaseException.__getattribute__"))),
  fun K => decide (PySem.W.findIn K (.ref 94) "__getattr__" = some none),
  fun K => PySem.W.hasDictIn K 94,
  fun K => decide (PySem.W.findIn K (.ref 94) "__class__" = some (some (.builtin "object.__class__"))),
  fun K => decide (PySem.W.mroIn K 94 (.type "object") = some true),
  fun K => decide (PySem.W.findIn K (.ref 113) "__getattribute__" = some (some (.builtin "BaseException.__getattribute__"))),
  fun K => decide (PySem.W.findIn K (.ref 113) "__getattr__" = some none),
  fun K => PySem.W.hasDictIn K 113,
  fun K => decide (PySem.W.findIn K (.ref 113) "__class__" = some (some (.builtin "object.__class__"))),
  fun K => decide (PySem.W.mroIn K 113 (.type "object") = some true),
  fun K => decide (PySem.W.exmOne K (.ref 37) (.ref 37) = some true),
  fun K => decide (PySem.W.exmOne K (.ref 56) (.ref 37) = some true),
  fun K => decide (PySem.W.exmOne K (.ref 75) (.ref 37) = some true),
  fun K => decide (PySem.W.exmOne K (.ref 94) (.ref 37) = some false),
  fun K => decide (PySem.W.exmOne K (.ref 113) (.ref 37) = some false),
  fun K => decide (PySem.W.exmOne K (.ref 37) (.ref 75) = some false),
  fun K => decide (PySem.W.exmOne K (.ref 56) (.ref 75) = some false),
  fun K => decide (PySem.W.exmOne K (.ref 75) (.ref 75) = some true),
  fun K => decide (PySem.W.exmOne K (.ref 94) (.ref 75) = some false),
  fun K => decide (PySem.W.exmOne K (.ref 113) (.ref 75) = some false),
  fun K => decide (PySem.W.exmOne K (.ref 37) (.ref 56) = some false),
  fun K => decide (PySem.W.exmOne K (.ref 56) (.ref 56) = some true),
  fun K => decide (PySem.W.exmOne K (.ref 75) (.ref 56) = some false),
  fun K => decide (PySem.W.exmOne K (.ref 94) (.ref 56) = some false)]
def fb_7 : List (Fr → Bool) := [fun K => decide (PySem.W.exmOne K (.ref 113) (.ref 56) = some false),
  fun K => decide (PySem.W.exmOne K (.ref 37) (.ref 24) = some true),
  fun K => decide (PySem.W.exmOne K (.ref 56) (.ref 24) = some true),
  fun K => decide (PySem.W.exmOne K (.ref 75) (.ref 24) = some true),
  fun K => decide (PySem.W.exmOne K (.ref 94) (.ref 24) = some true),
  fun K => decide (PySem.W.exmOne K (.ref 113) (.ref 24) = some true),
  fun K => decide (PySem.W.kitOne K (.ref 37) (.ref 37) = some true),
  fun K => decide (PySem.W.kitOne K (.ref 56) (.ref 37) = some true),
  fun K => decide (PySem.W.kitOne K (.ref 75) (.ref 37) = some true),
  fun K => decide (PySem.W.kitOne K (.ref 94) (.ref 37) = some false),
  fun K => decide (PySem.W.kitOne K (.ref 113) (.ref 37) = some false),
  fun K => decide (PySem.W.kitOne K (.ref 37) (.ref 75) = some false),
  fun K => decide (PySem.W.kitOne K (.ref 56) (.ref 75) = some false),
  fun K => decide (PySem.W.kitOne K (.ref 75) (.ref 75) = some true),
  fun K => decide (PySem.W.kitOne K (.ref 94) (.ref 75) = some false),
  fun K => decide (PySem.W.kitOne K (.ref 113) (.ref 75) = some false),
  fun K => decide (PySem.W.kitOne K (.ref 37) (.ref 56) = some false),
  fun K => decide (PySem.W.kitOne K (.ref 56) (.ref 56) = some true),
  fun K => decide (PySem.W.kitOne K (.ref 75) (.ref 56) = some false),
  fun K => decide (PySem.W.kitOne K (.ref 94) (.ref 56) = some false),
  fun K => decide (PySem.W.kitOne K (.ref 113) (.ref 56) = some false),
  fun K => decide (PySem.W.kitOne K (.ref 37) (.type "ValueError") = some true),
  fun K => decide (PySem.W.kitOne K (.ref 56) (.type "ValueError") = some true),
  fun K => decide (PySem.W.kitOne K (.ref 75) (.type "ValueError") = some true),
  fun K => decide (PySem.W.kitOne K (.ref 94) (.type "ValueError") = some true)]
def fb_8 : List (Fr → Bool) := [fun K => decide (PySem.W.kitOne K (.ref 113) (.type "ValueError") = some true),
  fun K => decide (PySem.W.kitOne K (.type "NoneType") (.ref 291) = some false),
  fun K => decide (PySem.W.kitOne K (.type "bool") (.ref 291) = some false),
  fun K => decide (PySem.W.kitOne K (.type "int") (.ref 291) = some false),
  fun K => decide (PySem.W.kitOne K (.type "str") (.ref 291) = some false),
  fun K => decide (PySem.W.kitOne K (.type "tuple") (.ref 291) = some false),
  fun K => decide (PySem.W.kitOne K (.type "list") (.ref 291) = some false),
  fun K => decide (PySem.W.kitOne K (.ref 291) (.ref 291) = some true),
  fun K => decide (PySem.W.findIn K (.ref 291) "__class__" = some (some (.builtin "object.__class__"))),
  fun K => decide (PySem.W.mroIn K 291 (.type "object") = some true),
  fun K => decide (PySem.W.kitOne K (.ref 291) (.type "bool") = some false),
  fun K => decide (PySem.W.kitOne K (.ref 291) (.type "int") = some false),
  fun K => decide (PySem.W.kitOne K (.ref 291) (.type "tuple") = some false)]
abbrev fbp_0 : Bs := [fb_0, fb_1, fb_2, fb_3, fb_4, fb_5, fb_6, fb_7, fb_8]
abbrev fbs : Bs := fbp_0
abbrev tbs : List ZH.Tab := []
def as_0 : List Addr := [3, 2, 24, 37, 56, 75, 94, 113, 132, 291, 0, 1, 6, 17, 23, 30, 36, 42, 55, 61, 74, 80, 93, 99, 112, 118, 131, 189, 209, 211, 281, 290, 9, 13, 16, 20, 25, 26, 27, 29]
def as_1 : List Addr := [33, 38, 39, 41, 45, 52, 53, 57, 58, 60, 64, 71, 72, 76, 77, 79, 83, 90, 91, 95, 96, 98, 102, 109, 110, 114, 115, 117, 121, 128, 129, 133, 134, 138, 139, 145, 146, 150, 151, 157]
def as_2 : List Addr := [158, 164, 165, 171, 172, 178, 179, 185, 186, 188, 192, 200, 201, 207, 208, 210, 217, 218, 224, 225, 231, 232, 238, 239, 245, 246, 252, 253, 257, 258, 259, 265, 266, 272, 273, 279, 280, 287, 288, 292]
def as_3 : List Addr := [293, 294, 295, 299, 300, 306, 307, 313, 314, 320, 321, 327, 328, 334, 335, 341, 342, 348, 349, 353, 354, 360, 361, 367, 368, 374, 375, 381, 382, 388, 389, 395, 396, 402, 403, 409, 410, 414, 415, 419]
def as_4 : List Addr := [420, 424, 425, 429, 430, 434, 435, 7, 11, 15, 18, 22, 28, 31, 35, 40, 43, 47, 49, 50, 54, 59, 62, 66, 68, 69, 73, 78, 81, 85, 87, 88, 92, 97, 100, 104, 106, 107, 111, 116]
def as_5 : List Addr := [119, 123, 125, 126, 130, 135, 140, 142, 143, 147, 152, 154, 155, 159, 161, 162, 166, 168, 169, 173, 175, 176, 180, 182, 183, 187, 190, 194, 195, 197, 198, 202, 204, 205, 212, 214, 215, 219, 221, 222]
def as_6 : List Addr := [226, 228, 229, 233, 235, 236, 240, 242, 243, 247, 249, 250, 254, 260, 262, 263, 267, 269, 270, 274, 276, 277, 282, 284, 285, 289, 296, 301, 303, 304, 308, 310, 311, 315, 317, 318, 322, 324, 325, 329]
def as_7 : List Addr := [331, 332, 336, 338, 339, 343, 345, 346, 350, 355, 357, 358, 362, 364, 365, 369, 371, 372, 376, 378, 379, 383, 385, 386, 390, 392, 393, 397, 399, 400, 404, 406, 407, 411, 416, 421, 426, 431]
def as_all : List Addr := as_0 ++ (as_1 ++ (as_2 ++ (as_3 ++ (as_4 ++ (as_5 ++ (as_6 ++ (as_7)))))))
def nm_0 : List PySem.Str := ["SiltError", "BadCore", "BadLayer", "BadJoint", "NoLayer", "NoJoint", "BadText", "LETTERS", "DIGITS", "is_layer", "is_joint", "parse_number", "parse_layer", "parse_joint", "written_layer", "written_joint", "joined_joint", "Core", "bare_core", "_law_mix", "_law_pool", "_law_draw", "_law_number", "_law_word", "_law_bounds", "_law_whole", "_law_same", "_law_odd_layer", "_law_odd_joint", "_law_valid"]
def nm_1 : List PySem.Str := ["_law_due", "_law_got", "_law_base", "_law_char", "_law_signs", "_law_counts", "_law_many", "_law_open", "_law_bare"]
def nm_all : List PySem.Str := nm_0 ++ nm_1
abbrev RR : PySem.W.OpenRow := PySem.W.OpenLaw.row PySem.Challenge.rw_siltmeet_k03_core_made
abbrev qq : Program := PySem.W.view RR.prog [42]
abbrev hkk : PySem.W.Hook := hookZ as_all fbs fnl tbs
noncomputable def obk (s : PySem.W.SharedT) : ZH.AlZ := obsZG as_all fbs fnl tbs (HandSHeadRun.getT s)
theorem obk_eq (s : PySem.W.SharedT) : obk s = hkk.obs s.abs := obsZG_eq (HandSHeadRun.getT_eq s)
/-- the run at a world -/
noncomputable abbrev rn (w : World) (os : OsState) : Option PySem.W.SharedT := HandSHeadRun.endF (HandSHeadRun.stepQ (HandSHeadRun.denQ HandSHeadRun.tabQ) RR.prog w) 30000 RR.prog w os
end ZZ
set_option Elab.async false
set_option linter.all false
set_option maxRecDepth 100000
set_option maxHeartbeats 4000000
namespace ZZ
open PySem PySem.Spec L2
open ZH
theorem ra_f (w : World) (os : OsState) : (rn (w.withFollow "special-get-raises" false) os).map (fun s => (HandSHeadRun.looksF RR.prog (PySem.W.boot_heap (w.withFollow "special-get-raises" false).params) s.abs, HandSHeadRun.seenQ qq nm_all (PySem.importedModules RR.prog.main.body) (fun s => PySem.W.xlAt qq [] s && PySem.W.recOk RR.toRowW.records s) s.abs)) = some (true, PySem.W.openGood qq nm_all) := by
  kernel_rfl
end ZZ
set_option Elab.async false
set_option linter.all false
set_option maxRecDepth 100000
set_option maxHeartbeats 4000000
namespace ZZ
open PySem PySem.Spec L2
open ZH
theorem rb_f_0 (w : World) (os : OsState) : (rn (w.withFollow "special-get-raises" false) os).map (fun s => obsZ fbp_0 fnl tbs (He.frG (HandSHeadRun.getT s) as_all)) = some (true, (valZ fnl tbs (w.withFollow "special-get-raises" false)).2) := by
  kernel_rfl
end ZZ
set_option Elab.async false
set_option linter.all false
set_option maxRecDepth 100000
set_option maxHeartbeats 4000000
namespace ZZ
open PySem PySem.Spec L2
open ZH
theorem ra_t (w : World) (os : OsState) : (rn (w.withFollow "special-get-raises" true) os).map (fun s => (HandSHeadRun.looksF RR.prog (PySem.W.boot_heap (w.withFollow "special-get-raises" true).params) s.abs, HandSHeadRun.seenQ qq nm_all (PySem.importedModules RR.prog.main.body) (fun s => PySem.W.xlAt qq [] s && PySem.W.recOk RR.toRowW.records s) s.abs)) = some (true, PySem.W.openGood qq nm_all) := by
  kernel_rfl
end ZZ
set_option Elab.async false
set_option linter.all false
set_option maxRecDepth 100000
set_option maxHeartbeats 4000000
namespace ZZ
open PySem PySem.Spec L2
open ZH
theorem rb_t_0 (w : World) (os : OsState) : (rn (w.withFollow "special-get-raises" true) os).map (fun s => obsZ fbp_0 fnl tbs (He.frG (HandSHeadRun.getT s) as_all)) = some (true, (valZ fnl tbs (w.withFollow "special-get-raises" true)).2) := by
  kernel_rfl
end ZZ
set_option Elab.async false
set_option linter.all false
set_option maxRecDepth 100000
set_option maxHeartbeats 4000000
namespace ZZ
open PySem PySem.Spec L2
open ZH
section
open PySem.W PyProof.Rows HandSHeadRun
theorem fe0 (k : RR.wellSaid = true → RR.Holds) : PySem.Challenge.rw_siltmeet_k03_core_made.Holds := by
  w_on; o_law
  rename_i said
  exact k said
theorem fe1 : opening RR.prog = plainProg RR.prog.main.scope.names := by kernel_rfl
theorem fe2 (s : PySem.Shared) : fenceModules? RR.prog s = some s := by kernel_rfl
theorem fe3 : defOf qq RR.name = some ((HandSHeadRun.topDef RR.prog 42), []) := by kernel_rfl
theorem fe4 : RR.prog.theDef RR.name = some ((HandSHeadRun.topDef RR.prog 42).params, (HandSHeadRun.topDef RR.prog 42).body, (HandSHeadRun.topDef RR.prog 42).scope) := by kernel_rfl
theorem fe5 : kwWritten? (HandSHeadRun.topDef RR.prog 42).params.kwonlyargs (HandSHeadRun.topDef RR.prog 42).params.kw_defaults = some [] := by kernel_rfl
theorem fe6 : (!RR.writes || RR.records.isEmpty) = true := by rfl
theorem fe8 : (chainsOk qq && opensWell RR.prog && (frees RR.toRowW && RR.within.isEmpty)) = true := by decide +kernel
theorem fe9 : RR.prog.bare := ⟨rfl, rfl, rfl, rfl, rfl, by decide +kernel⟩
theorem feA : RR.toRowW.promised := by w_witness2
theorem feB : (HandSHeadRun.topDef RR.prog 42).params.defaults = [] := by kernel_rfl
theorem feC : (HandSHeadRun.topDef RR.prog 42).name = ("law" : PySem.Str) := by kernel_rfl
end
end ZZ
set_option Elab.async false
set_option linter.all false
set_option maxRecDepth 100000
namespace ZZ
open PySem PySem.Spec L2
/-- what a call lets out is wished for -/
def TW (X : Cx) (W : WX) : Prop := ∀ σ, PassesAt (L2N.CX X.prog X.w) X σ (WE W σ)
theorem tw_of {X : Cx} {W : WX} (t : L2N.Takes X W) : TW X W := fun σ => L2N.passAt t σ
abbrev WF : WX := fun _ _ _ _ => False
theorem takesN0 {X : Cx} : L2N.Takes X WF := fun _ _ x => by
  obtain ⟨_, _, _, _, _, _, _, _, _, _, _, _, _, _, _, _, z⟩ := x
  exact z.elim
theorem tw_none {X : Cx} : TW X WF := tw_of takesN0
def eC (d : D) : DE := fun _ ce => .ok (.im d) ce
def eV (i : Nat) : DE := fun sl ce => match sl[i]? with
  | some (some v) => .ok v ce
  | _ => .stuck
def kStuck : DE := fun _ _ => .stuck
def asL (ce : List Cell) : Val → Option (List D)
  | .im (.lst ds) => some ds
  | .cell k => match ce[k]? with
    | some (.lst ds) => some ds
    | _ => none
  | _ => none
/-- a list or tuple that is only read -/
def asSq (ce : List Cell) : Val → Option (List D)
  | .im (.lst ds) => some ds
  | .im (.wl ds) => some ds
  | .im (.tup ds) => some ds
  | .cell k => match ce[k]? with
    | some (.lst ds) => some ds
    | _ => none
  | _ => none
abbrev LINE : Nat := 16777216
def kAdd (v u : Val) : DE := fun sl ce => match v, u with
  | .im (.int i), .im (.int j) => .ok (.im (.int (i + j))) ce
  | .im (.str a), .im (.str b) => if a.length + b.length ≤ LINE then .ok (.im (.str (a ++ b))) ce else .stuck
  | v, u => match asL ce v, asL ce u with
    | some xs, some ys => if xs.length + ys.length ≤ LINE then .ok (.im (.lst (xs ++ ys))) ce else .stuck
    | _, _ => .stuck
def kSub (v u : Val) : DE := fun _ ce => match v, u with
  | .im (.int i), .im (.int j) => .ok (.im (.int (i - j))) ce
  | _, _ => .stuck
/-- bits of a product -/
def mulOK (i j : Int) : Bool := decide (i.natAbs < 2 ^ 400000) && decide (j.natAbs < 2 ^ 400000) || (decide (i.natAbs < 2 ^ 64) || decide (j.natAbs < 2 ^ 64))
def kMul (v u : Val) : DE := fun _ ce => match v, u with
  | .im (.int i), .im (.int j) => if mulOK i j then .ok (.im (.int (i * j))) ce else .stuck
  | _, _ => .stuck
def kDiv (v u : Val) : DE := fun _ ce => match v, u with
  | .im (.int i), .im (.int j) => if 0 < j ∧ j < 1073741824 then .ok (.im (.int (i / j))) ce else .stuck
  | _, _ => .stuck
def kMod (v u : Val) : DE := fun _ ce => match v, u with
  | .im (.int i), .im (.int j) => if 0 < j then .ok (.im (.int (i % j))) ce else .stuck
  | _, _ => .stuck
def kPow (v u : Val) : DE := fun _ ce => match v, u with
  | .im (.int i), .im (.int j) => if 0 ≤ j ∧ j ≤ 1000000 ∧ i.natAbs < 2 ^ 64 then .ok (.im (.int (i ^ j.toNat))) ce else .stuck
  | _, _ => .stuck
def kCmp (g : Int → Int → Bool) (v u : Val) : DE := fun _ ce => match v, u with
  | .im (.int i), .im (.int j) => .ok (.im (.bl (g i j))) ce
  | _, _ => .stuck
abbrev kLt := kCmp fun i j => decide (i < j)
abbrev kLe := kCmp fun i j => decide (i ≤ j)
abbrev kGt := kCmp fun i j => decide (j < i)
abbrev kGe := kCmp fun i j => decide (j ≤ i)
mutual
def toPy : D → Option PyData
  | .non => some .none
  | .bl b => some (.bool b)
  | .int i => some (.int i)
  | .str s => some (.str s)
  | .tup ds => (toPys ds).map .tuple
  | .lst ds => (toPys ds).map .list
  | .wl ds => (toPys ds).map .list
  | .ins _ _ => none
  | .dct _ _ => none
def toPys : List D → Option (List PyData)
  | [] => some []
  | d :: ds => match toPy d, toPys ds with
    | some p, some ps => some (p :: ps)
    | _, _ => none
end
def asIm (ce : List Cell) : Val → Option D
  | .im d => some d
  | .cell k => match ce[k]? with
    | some (.lst ds) => some (.lst ds)
    | _ => none
  | _ => none
def pyEq (d e : D) : Option Bool := match toPy d, toPy e with
  | some p, some q => if SeqAt.shaped p = true ∧ SeqAt.shaped q = true then some (PyData.eqv p q) else none
  | _, _ => none
def kEqG (neg : Bool) (v u : Val) : DE := fun _ ce => match asIm ce v, asIm ce u with
  | some d, some e => match pyEq d e with
    | some b => .ok (.im (.bl (if neg then !b else b))) ce
    | none => .stuck
  | _, _ => .stuck
abbrev kEq := kEqG false
abbrev kNe := kEqG true
def D.isNon : D → Bool
  | .non => true
  | _ => false
def kIsN (neg : Bool) (v u : Val) : DE := fun _ ce => match v, u with
  | .im d, .im .non => .ok (.im (.bl (if neg then !d.isNon else d.isNon))) ce
  | _, _ => .stuck
def kIsB (neg : Bool) (v u : Val) : DE := fun _ ce => match v, u with
  | .im (.bl a), .im (.bl b) => .ok (.im (.bl (if neg then !decide (a = b) else decide (a = b)))) ce
  | _, _ => .stuck
def kIx (v u : Val) : DE := fun _ ce => match u with
  | .im (.int i) => match v with
    | .im (.str z) => if z.length ≤ LINE then (match atI z.cps.toList i with
      | some c => .ok (.im (.str ⟨#[c]⟩)) ce
      | none => .stuck) else .stuck
    | v => match asSq ce v with
      | some ds => match atI ds i with
        | some d => .ok (.im d) ce
        | none => .stuck
      | none => .stuck
  | _ => .stuck
/-- one sign in a text -/
def kInS (neg : Bool) (v u : Val) : DE := fun _ ce => match v, u with
  | .im (.str a), .im (.str z) => match a.cps.toList with
    | [c] => .ok (.im (.bl (if neg then !decide (c ∈ z.cps.toList) else decide (c ∈ z.cps.toList)))) ce
    | _ => .stuck
  | _, _ => .stuck
def eBin (k : Val → Val → DE) (f g : DE) : DE := eBind f fun v => eBind g (k v)
def eUn (k : Val → DE) (f : DE) : DE := eBind f k
def kBool (k : Bool → DE) (v : Val) : DE := match v with
  | .im (.bl b) => k b
  | _ => kStuck
def eAnd (f g : DE) : DE := eBind f (kBool fun b => if b then g else eC (.bl false))
def eOr (f g : DE) : DE := eBind f (kBool fun b => if b then eC (.bl true) else g)
def eNot (f : DE) : DE := eBind f (kBool fun b => eC (.bl (!b)))
def eIf (c f g : DE) : DE := eBind c (kBool fun b => if b then f else g)
/-- a op b op' c -/
def eChain (k k' : Val → Val → DE) (f g h : DE) : DE := eBind f fun v => eBind g fun u => eBind (k v u) (kBool fun b => if b then eBind h (k' u) else eC (.bl false))
/-- a value as a test -/
def truV (ce : List Cell) : Val → Option Bool
  | .im .non => some false
  | .im (.bl b) => some b
  | .im (.int i) => some (i != 0)
  | .im (.str y) => if y.length ≤ LINE then some ((y.length : Int) != 0) else none
  | v => (asSq ce v).map fun ds => !ds.isEmpty
def kTru (v : Val) : DE := fun _ ce => match truV ce v with
  | some b => .ok (.im (.bl b)) ce
  | none => .stuck
def eTru (f : DE) : DE := eBind f kTru
section
variable {Z : Zy} {A A' : List Addr} {F F' H : Hp} {ce : List Cell} {sl : Sl} {σ : L2.St} {W : WX} {Q Q' : VK}
theorem asL_rd {v : Val} {x : V} {ds : List D} (so : SO Z.toZx A F ce H) (r : VRep Z A F v x) (e : asL ce v = some ds) : ∃ l vs, x = .ref l ∧ H l = some (.lst vs) ∧ Reps Z.toZx F ds vs := by
  unfold asL at e
  split at e
  · cases e
    unfold VRep Rep at r
    obtain ⟨a, vs, rfl, h1, h2⟩ := r
    exact ⟨a, vs, rfl, so.sub _ _ h1, h2⟩
  · rename_i k
    split at e
    · rename_i ds' hk
      cases e
      obtain ⟨a, h1, rfl⟩ := r
      obtain ⟨_, vs, h2, h3⟩ := so.ok k a _ h1 hk
      exact ⟨a, vs, rfl, h2, h3⟩
    · cases e
  · cases e
theorem asSq_rd {v : Val} {x : V} {ds : List D} (so : SO Z.toZx A F ce H) (r : VRep Z A F v x) (e : asSq ce v = some ds) : ∃ l vs, x = .ref l ∧ (SqL Z.K H l vs ∨ SqT Z.K H l vs) ∧ Reps Z.toZx F ds vs := by
  unfold asSq at e
  split at e
  · cases e
    unfold VRep Rep at r
    obtain ⟨a, vs, rfl, h1, h2⟩ := r
    exact ⟨a, vs, rfl, .inl (SqL.of (so.sub _ _ h1)), h2⟩
  · cases e
    unfold VRep Rep at r
    obtain ⟨a, vs, rfl, h1, h2⟩ := r
    exact ⟨a, vs, rfl, .inl (so.sub.seq h1), h2⟩
  · cases e
    unfold VRep Rep at r
    obtain ⟨a, vs, rfl, h1, h2⟩ := r
    exact ⟨a, vs, rfl, .inr (same_seqT so.sub h1), h2⟩
  · rename_i k
    split at e
    · rename_i ds' hk
      cases e
      obtain ⟨a, h1, rfl⟩ := r
      obtain ⟨_, vs, h2, h3⟩ := so.ok k a _ h1 hk
      exact ⟨a, vs, rfl, .inl (SqL.of h2), h3⟩
    · cases e
  · cases e
mutual
theorem dp_of (e : Same F H) : ∀ {d : D} {v : V} {p : PyData}, Rep Z.toZx F d v → toPy d = some p → Dp Z.K H v p
  | .non, v, p, r, t => by
    unfold Rep at r; unfold toPy at t; cases t; subst r; exact .non
  | .bl b, v, p, r, t => by
    unfold Rep at r; unfold toPy at t; cases t; subst r; exact .bl b
  | .int b, v, p, r, t => by
    unfold Rep at r; unfold toPy at t; cases t; subst r; exact .int b
  | .str b, v, p, r, t => by
    unfold Rep at r; unfold toPy at t; cases t; subst r; exact .str b
  | .tup ds, v, p, r, t => by
    unfold Rep at r; unfold toPy at t
    obtain ⟨a, vs, rfl, h1, h2⟩ := r
    cases q : toPys ds with
    | none => rw [q] at t; cases t
    | some ps => rw [q] at t; cases t; exact .tup (same_seqT e h1) (dps_of e h2 q)
  | .lst ds, v, p, r, t => by
    unfold Rep at r; unfold toPy at t
    obtain ⟨a, vs, rfl, h1, h2⟩ := r
    cases q : toPys ds with
    | none => rw [q] at t; cases t
    | some ps => rw [q] at t; cases t; exact .lst (SqL.of (e _ _ h1)) (dps_of e h2 q)
  | .wl ds, v, p, r, t => by
    unfold Rep at r; unfold toPy at t
    obtain ⟨a, vs, rfl, h1, h2⟩ := r
    cases q : toPys ds with
    | none => rw [q] at t; cases t
    | some ps => rw [q] at t; cases t; exact .lst (e.seq h1) (dps_of e h2 q)
  | .ins _ _, v, p, r, t => by
    unfold toPy at t; cases t
  | .dct _ _, v, p, r, t => by
    unfold toPy at t; cases t
theorem dps_of (e : Same F H) : ∀ {ds : List D} {vs : List V} {ps : List PyData}, Reps Z.toZx F ds vs → toPys ds = some ps → DpAll Z.K H vs ps
  | [], vs, ps, r, t => by
    rw [reps_nil_inv r]; unfold toPys at t; cases t; exact .nil
  | d :: ds, vs, ps, r, t => by
    obtain ⟨v, r', rfl, h1, h2⟩ := reps_cons_inv r
    unfold toPys at t
    split at t
    · rename_i p ps' q1 q2
      cases t
      exact .cons (dp_of e h1 q1) (dps_of e h2 q2)
    · cases t
end
theorem asIm_dp {v : Val} {x : V} {d : D} {p : PyData} (so : SO Z.toZx A F ce H) (r : VRep Z A F v x) (e : asIm ce v = some d) (t : toPy d = some p) : Dp Z.K H x p := by
  unfold asIm at e
  split at e
  · cases e
    exact dp_of so.sub r t
  · rename_i k
    split at e
    · rename_i ds' hk
      cases e
      obtain ⟨a, h1, rfl⟩ := r
      obtain ⟨_, vs, h2, h3⟩ := so.ok k a _ h1 hk
      unfold toPy at t
      cases q : toPys ds' with
      | none => rw [q] at t; cases t
      | some ps => rw [q] at t; cases t; exact .lst (SqL.of h2) (dps_of so.sub h3 q)
    · cases e
  · cases e
theorem truV_ok {v : Val} {x : V} {b : Bool} (so : SO Z.toZx A F ce H) (r : VRep Z A F v x) (e : truV ce v = some b) : TruV Z.K x H b := by
  unfold truV at e
  split at e
  · cases e; unfold VRep Rep at r; subst r; rfl
  · cases e; unfold VRep Rep at r; subst r; rfl
  · cases e; unfold VRep Rep at r; subst r; rfl
  · split at e
    · rename_i h
      cases e; unfold VRep Rep at r; subst r
      exact ⟨by rw [sizeLine_eq]; exact h, rfl⟩
    · cases e
  · cases q : asSq ce v with
    | none => rw [q] at e; cases e
    | some ds =>
      rw [q] at e
      cases e
      obtain ⟨l, vs, rfl, h1, h2⟩ := asSq_rd so r q
      have hv : (!ds.isEmpty) = !vs.isEmpty := by
        have := h2.length
        cases ds <;> cases vs <;> simp_all
      rcases h1 with h1 | h1
      · exact .inl ⟨vs, h1, by simpa using hv⟩
      · exact .inr (.inl ⟨vs, h1, by simpa using hv⟩)
theorem fin_flat {d : D} {x : V} (so : SO Z.toZx A F ce H) (h : PostE Z A F W σ Q (.ok (.im d) ce)) (r : Rep Z.toZx F d x) : Q x H :=
  h A F H x (List.prefix_refl _) (Same.refl _) so r
theorem fin_newL {ds : List D} {vs : List V} (so : SO Z.toZx A F ce H) (h : PostE Z A F W σ Q (.ok (.im (.lst ds)) ce)) (r : Reps Z.toZx F ds vs) {p : Addr} (hp : H p = none) : Q (.ref p) (upd H p (.lst vs)) := by
  refine h A (upd F p (.lst vs)) _ _ (List.prefix_refl _) (same_up (so.fnone hp)) (so.new hp) ?_
  unfold VRep Rep
  exact ⟨p, vs, rfl, upd_same, r.mono (same_up (so.fnone hp))⟩
theorem fin_newT {ds : List D} {vs : List V} (so : SO Z.toZx A F ce H) (h : PostE Z A F W σ Q (.ok (.im (.tup ds)) ce)) (r : Reps Z.toZx F ds vs) {p : Addr} (hp : H p = none) : Q (.ref p) (upd H p (.tup vs)) := by
  refine h A (upd F p (.tup vs)) _ _ (List.prefix_refl _) (same_up (so.fnone hp)) (so.new hp) ?_
  unfold VRep Rep
  exact ⟨p, vs, rfl, SqT.of upd_same, r.mono (same_up (so.fnone hp))⟩
theorem fin_newC {ds : List D} {vs : List V} (so : SO Z.toZx A F ce H) (h : PostE Z A F W σ Q (.ok (.cell ce.length) (ce ++ [.lst ds]))) (r : Reps Z.toZx F ds vs) {p : Addr} (hp : H p = none) : Q (.ref p) (upd H p (.lst vs)) := by
  refine h (A ++ [p]) F _ _ (List.prefix_append _ _) (Same.refl _) (so.newCell hp ⟨so.fnone hp, vs, upd_same, r⟩) ?_
  exact ⟨p, by rw [← so.len]; simp, rfl⟩
/-- what a rule on two values asks -/
def Ok2 (Z : Zy) (W : WX) (k : Val → Val → DE) (r : R2) : Prop := ∀ A F sl ce v u x y H σ Q, SO Z.toZx A F ce H → SL Z A F sl σ → VRep Z A F v x → VRep Z A F u y → PostE Z A F W σ Q (k v u sl ce) → r x y H Q
theorem rep_int {i : Int} {x : V} (r : VRep Z A F (.im (.int i)) x) : x = .int i := by unfold VRep Rep at r; exact r
theorem rep_bl {i : Bool} {x : V} (r : VRep Z A F (.im (.bl i)) x) : x = .bl i := by unfold VRep Rep at r; exact r
theorem rep_str {i : Str} {x : V} (r : VRep Z A F (.im (.str i)) x) : x = .str i := by unfold VRep Rep at r; exact r
theorem rep_non {x : V} (r : VRep Z A F (.im .non) x) : x = .non := by unfold VRep Rep at r; exact r
theorem repI {i : Int} : Rep Z.toZx F (.int i) (.int i) := by unfold Rep; rfl
theorem repB {i : Bool} : Rep Z.toZx F (.bl i) (.bl i) := by unfold Rep; rfl
theorem repS {i : Str} : Rep Z.toZx F (.str i) (.str i) := by unfold Rep; rfl
theorem repN : Rep Z.toZx F .non .non := by unfold Rep; rfl
end
section
variable {X : Cx} {Z : Zy} {W : WX} {a b c : Expr} {f g h : DE} {pos : Pos}
def rAddA : R2 := fun x y H Q => (∃ i j, x = .int i ∧ y = .int j ∧ Q (.int (i + j)) H) ∨ (∃ i j, x = .str i ∧ y = .str j ∧ i.length + j.length ≤ sizeLine ∧ Q (.str (i ++ j)) H) ∨ rCat x y H Q
theorem op_or2 {f : Value → Value → Sem Value} {r r' : R2} (h : OpR X f r) (h' : OpR X f r') : OpR X f (fun x y H Q => r x y H Q ∨ r' x y H Q) := by
  intro pins s σ H x y v u Q I rx ry q
  rcases q with q | q
  · exact h pins s σ H x y v u Q I rx ry q
  · exact h' pins s σ H x y v u Q I rx ry q
theorem op_addA : OpR X (binaryOp .Add) rAddA := op_or2 op_add (op_or2 op_add_str op_cat)
theorem ok_add : Ok2 Z W kAdd rAddA := by
  intro A F sl ce v u x y H σ Q so hs rv ru p
  unfold kAdd at p
  split at p
  · exact .inl ⟨_, _, rep_int rv, rep_int ru, fin_flat so p repI⟩
  · split at p
    · rename_i hl
      exact .inr (.inl ⟨_, _, rep_str rv, rep_str ru, by rw [sizeLine_eq]; exact hl, fin_flat so p repS⟩)
    · exact p.elim
  · split at p
    · rename_i xs ys e1 e2
      split at p
      · rename_i hl
        obtain ⟨l, vs, rfl, h1, h2⟩ := asL_rd so rv e1
        obtain ⟨l', vs', rfl, h1', h2'⟩ := asL_rd so ru e2
        exact .inr (.inr ⟨l, l', vs, vs', rfl, rfl, h1, h1', by rw [sizeLine_eq, ← h2.length, ← h2'.length]; exact hl, fun p' hp => fin_newL so p (h2.append h2') hp⟩)
      · exact p.elim
    · exact p.elim
theorem ok_int {k : Val → Val → DE} {C : Int → Int → Prop} {g : Int → Int → D} {gv : Int → Int → V} (hk : ∀ v u sl ce, (∃ i j, v = .im (.int i) ∧ u = .im (.int j) ∧ C i j ∧ k v u sl ce = .ok (.im (g i j)) ce) ∨ k v u sl ce = .stuck)
    (hg : ∀ F i j, Rep Z.toZx F (g i j) (gv i j)) : Ok2 Z W k (rI C gv) := by
  intro A F sl ce v u x y H σ Q so hs rv ru p
  rcases hk v u sl ce with ⟨i, j, rfl, rfl, hc, e⟩ | e
  · rw [e] at p
    exact ⟨i, j, rep_int rv, rep_int ru, hc, fin_flat so p (hg _ _ _)⟩
  · rw [e] at p
    exact p.elim
theorem op_rI0 {f : Value → Value → Sem Value} {g : Int → Int → V} (h : OpR X f (rI0 g)) : OpR X f (rI (fun _ _ => True) g) := by
  intro pins s σ H x y v u Q I rx ry ⟨i, j, e1, e2, _, q⟩
  exact h pins s σ H x y v u Q I rx ry ⟨i, j, e1, e2, q⟩
theorem ok_sub : Ok2 Z W kSub (rI (fun _ _ => True) fun i j => .int (i - j)) := ok_int (g := fun i j => .int (i - j)) (fun v u sl ce => by
  unfold kSub; split
  · exact .inl ⟨_, _, rfl, rfl, trivial, rfl⟩
  · exact .inr rfl) fun _ _ _ => repI
theorem ok_cmp {g : Int → Int → Bool} : Ok2 Z W (kCmp g) (rI (fun _ _ => True) fun i j => .bl (g i j)) := ok_int (g := fun i j => .bl (g i j)) (fun v u sl ce => by
  unfold kCmp; split
  · exact .inl ⟨_, _, rfl, rfl, trivial, rfl⟩
  · exact .inr rfl) fun _ _ _ => repB
def CMulA (i j : Int) : Prop := CMul i j ∨ CMulW i j
theorem op_mulA : OpR X (binaryOp .Mult) (rI CMulA fun i j => .int (i * j)) := by
  intro pins s σ H x y v u Q I rx ry ⟨i, j, e1, e2, hc, q⟩
  rcases hc with hc | hc
  · exact op_mul pins s σ H x y v u Q I rx ry ⟨i, j, e1, e2, hc, q⟩
  · exact op_mulW pins s σ H x y v u Q I rx ry ⟨i, j, e1, e2, hc, q⟩
theorem mulOK_ok {i j : Int} (h : mulOK i j = true) : CMulA i j := by
  unfold mulOK at h
  simp only [Bool.or_eq_true, Bool.and_eq_true, decide_eq_true_eq] at h
  rcases h with ⟨h1, h2⟩ | h | h
  · exact .inr (wide_mul h1 h2 (by decide) (by decide) (by decide))
  · exact .inl (.inl (by constructor <;> omega))
  · exact .inl (.inr (by constructor <;> omega))
theorem ok_mul : Ok2 Z W kMul (rI CMulA fun i j => .int (i * j)) := ok_int (g := fun i j => .int (i * j)) (fun v u sl ce => by
  unfold kMul; split
  · split
    · rename_i h
      exact .inl ⟨_, _, rfl, rfl, mulOK_ok h, rfl⟩
    · exact .inr rfl
  · exact .inr rfl) fun _ _ _ => repI
theorem ok_div : Ok2 Z W kDiv (rI CDiv fun i j => .int (i / j)) := ok_int (g := fun i j => .int (i / j)) (fun v u sl ce => by
  unfold kDiv; split
  · split
    · rename_i h
      exact .inl ⟨_, _, rfl, rfl, h, rfl⟩
    · exact .inr rfl
  · exact .inr rfl) fun _ _ _ => repI
theorem ok_mod : Ok2 Z W kMod (rI (fun _ j => 0 < j) fun i j => .int (i % j)) := ok_int (g := fun i j => .int (i % j)) (fun v u sl ce => by
  unfold kMod; split
  · split
    · rename_i h
      exact .inl ⟨_, _, rfl, rfl, h, rfl⟩
    · exact .inr rfl
  · exact .inr rfl) fun _ _ _ => repI
theorem ok_pow : Ok2 Z W kPow (rI CPow fun i j => .int (i ^ j.toNat)) := ok_int (g := fun i j => .int (i ^ j.toNat)) (fun v u sl ce => by
  unfold kPow; split
  · split
    · rename_i h
      exact .inl ⟨_, _, rfl, rfl, h, rfl⟩
    · exact .inr rfl
  · exact .inr rfl) fun _ _ _ => repI
theorem ok_eqG (neg : Bool) : Ok2 Z W (kEqG neg) (fun x y H Q => ∃ d e, Dp Z.K H x d ∧ Dp Z.K H y e ∧ SeqAt.shaped d = true ∧ SeqAt.shaped e = true ∧ Q (.bl (if neg then !PyData.eqv d e else PyData.eqv d e)) H) := by
  intro A F sl ce v u x y H σ Q so hs rv ru p
  unfold kEqG at p
  split at p
  · rename_i d e e1 e2
    unfold pyEq at p
    cases t1 : toPy d with
    | none => simp only [t1] at p; exact p.elim
    | some p1 =>
      cases t2 : toPy e with
      | none => simp only [t1, t2] at p; exact p.elim
      | some p2 =>
        simp only [t1, t2] at p
        by_cases hs : SeqAt.shaped p1 = true ∧ SeqAt.shaped p2 = true
        · rw [if_pos hs] at p
          exact ⟨p1, p2, asIm_dp so rv e1 t1, asIm_dp so ru e2 t2, hs.1, hs.2, fin_flat so p repB⟩
        · rw [if_neg hs] at p
          exact p.elim
  · exact p.elim
theorem ok_eq : Ok2 Z W kEq (rEqD Z.K) := ok_eqG false
theorem ok_ne : Ok2 Z W kNe (rNeD Z.K) := ok_eqG true
theorem rep_isNon {F : Hp} {d : D} {x : V} (r : Rep Z.toZx F d x) : decide (x = .non) = d.isNon := by
  cases d <;> unfold Rep at r <;> first | (subst r; rfl) | (obtain ⟨a, o, k, v, rfl, _⟩ := r; rfl) | (obtain ⟨a, vs, rfl, _⟩ := r; rfl) | (obtain ⟨a, dx, fs, rfl, _⟩ := r; rfl)
theorem ok_isN (neg : Bool) : Ok2 Z W (kIsN neg) (fun x y H Q => y = .non ∧ Q (.bl (if neg then !decide (x = .non) else decide (x = .non))) H) := by
  intro A F sl ce v u x y H σ Q so hs rv ru p
  unfold kIsN at p
  split at p
  · refine ⟨rep_non ru, ?_⟩
    rw [rep_isNon rv]
    exact fin_flat so p repB
  · exact p.elim
theorem ok_isB (neg : Bool) : Ok2 Z W (kIsB neg) (fun x y H Q => ∃ a b : Bool, x = .bl a ∧ y = .bl b ∧ Q (.bl (if neg then !decide (a = b) else decide (a = b))) H) := by
  intro A F sl ce v u x y H σ Q so hs rv ru p
  unfold kIsB at p
  split at p
  · exact ⟨_, _, rep_bl rv, rep_bl ru, fin_flat so p repB⟩
  · exact p.elim
theorem atI_reps {F : Hp} {ds : List D} {vs : List V} {i : Int} {d : D} (r : Reps Z.toZx F ds vs) (e : atI ds i = some d) : ∃ x, atI vs i = some x ∧ Rep Z.toZx F d x := by
  unfold atI at e ⊢
  rw [← r.length]
  cases q : ixN ds.length i with
  | none => rw [q] at e; cases e
  | some j =>
    rw [q] at e
    exact r.get' e
theorem ok_ix : Ok2 Z W kIx (rIx Z.K) := by
  intro A F sl ce v u x y H σ Q so hs rv ru p
  unfold kIx at p
  split at p
  · split at p
    · split at p
      · rename_i hl
        split at p
        · rename_i c hc
          exact .inr (.inr ⟨_, _, c, rep_str rv, rep_int ru, by rw [sizeLine_eq]; exact hl, hc, fin_flat so p repS⟩)
        · exact p.elim
      · exact p.elim
    · split at p
      · rename_i ds e1
        split at p
        · rename_i d e2
          obtain ⟨l, vs, rfl, h1, h2⟩ := asSq_rd so rv e1
          obtain ⟨x, e3, r3⟩ := atI_reps h2 e2
          rcases h1 with h1 | h1
          · exact .inl ⟨l, vs, _, x, rfl, rep_int ru, h1, e3, fin_flat so p r3⟩
          · exact .inr (.inl ⟨l, vs, _, x, rfl, rep_int ru, h1, e3, fin_flat so p r3⟩)
        · exact p.elim
      · exact p.elim
  · exact p.elim
theorem ok_inS (neg : Bool) : Ok2 Z W (kInS neg) (fun x y H Q => ∃ (c : Nat) (z : Str), x = .str ⟨#[c]⟩ ∧ y = .str z ∧ Q (.bl (if neg then !decide (c ∈ z.cps.toList) else decide (c ∈ z.cps.toList))) H) := by
  intro A F sl ce v u x y H σ Q so hs rv ru p
  unfold kInS at p
  split at p
  · rename_i a z
    split at p
    · rename_i c hc
      have ea : a = ⟨#[c]⟩ := by
        cases a with
        | mk cps =>
          congr 1
          have h2 : cps.toList = [c] := hc
          rw [← Array.toArray_toList (xs := cps), h2]
      exact ⟨c, z, by rw [rep_str rv, ea], rep_str ru, fin_flat so p repB⟩
    · exact p.elim
  · exact p.elim
theorem de_c {d : D} {v : V} {e : Expr} (h : PE X e (tC v)) (r : ∀ F, Rep Z.toZx F d v) : PE X e (tE Z W (eC d)) := h.weak fun σ H Q ⟨A, F, sl, ce, so, hs, p⟩ => fin_flat so p (r F)
theorem de_int {i j} : PE X (.Constant (.int i) j pos) (tE Z W (eC (.int i))) := de_c pe_int fun _ => repI
theorem de_str {i j} : PE X (.Constant (.str i) j pos) (tE Z W (eC (.str i))) := de_c pe_str fun _ => repS
theorem de_bl {i j} : PE X (.Constant (.bool i) j pos) (tE Z W (eC (.bl i))) := de_c pe_bl fun _ => repB
theorem de_non {j} : PE X (.Constant .none j pos) (tE Z W (eC .non)) := de_c pe_non fun _ => repN
theorem de_var {e : Expr} {i : Nat} (h : PE X e (tVar i)) : PE X e (tE Z W (eV i)) := h.weak fun σ H Q ⟨A, F, sl, ce, so, hs, p⟩ => by
  unfold eV at p
  split at p
  · rename_i v e
    obtain ⟨x, h1, h2⟩ := hs.is i v e
    exact ⟨x, h1, p A F H x (List.prefix_refl _) (Same.refl _) so h2⟩
  · exact p.elim
theorem dv (i : Nat) {x : Str} {pos : Pos} (hN : X.N[i]? = some x := by rfl) (hv : Vis X.env.scope x := by first | exact Or.inl rfl | exact Or.inr (Or.inl rfl) | exact Or.inr (Or.inr rfl)) (hd : (x == ("__debug__" : Str)) = false := by decide)
    (hcd : (x == ("__classdict__" : Str)) = false := by decide) : PE X (.Name x pos) (tE Z W (eV i)) := de_var (pe_var hN hv hd hcd)
theorem t2 {k : Val → Val → DE} {r : R2} (hk : Ok2 Z W k r) {σ : L2.St} {H : Hp} {Q : VK} (h : tE Z W (eBin k f g) σ H Q) : tE Z W f σ H fun x H1 => tE Z W g σ H1 fun y H2 => r x y H2 Q :=
  tE_imp (fun x H1 h1 => tE_imp (fun y H2 ⟨A, F, sl, ce, v, u, so, hs, rv, ru, p⟩ => hk A F sl ce v u x y H2 σ Q so hs rv ru p) h1) (tE2 h)
theorem de_op {op : Operator} {k : Val → Val → DE} {r : R2} (ho : OpR X (binaryOp op) r) (hk : Ok2 Z W k r) (ha : PE X a (tE Z W f)) (hb : PE X b (tE Z W g)) : PE X (.BinOp a op b pos) (tE Z W (eBin k f g)) :=
  (pe_op ho ha hb).weak fun σ H Q h => t2 hk h
theorem de_add (ha : PE X a (tE Z W f)) (hb : PE X b (tE Z W g)) : PE X (.BinOp a .Add b pos) (tE Z W (eBin kAdd f g)) := de_op op_addA ok_add ha hb
theorem de_sub (ha : PE X a (tE Z W f)) (hb : PE X b (tE Z W g)) : PE X (.BinOp a .Sub b pos) (tE Z W (eBin kSub f g)) := de_op (op_rI0 op_sub) ok_sub ha hb
theorem de_mul (ha : PE X a (tE Z W f)) (hb : PE X b (tE Z W g)) : PE X (.BinOp a .Mult b pos) (tE Z W (eBin kMul f g)) := de_op op_mulA ok_mul ha hb
theorem de_div (ha : PE X a (tE Z W f)) (hb : PE X b (tE Z W g)) : PE X (.BinOp a .FloorDiv b pos) (tE Z W (eBin kDiv f g)) := de_op op_fdiv ok_div ha hb
theorem de_mod (ha : PE X a (tE Z W f)) (hb : PE X b (tE Z W g)) : PE X (.BinOp a .Mod b pos) (tE Z W (eBin kMod f g)) := de_op op_mod ok_mod ha hb
theorem de_pow (ha : PE X a (tE Z W f)) (hb : PE X b (tE Z W g)) : PE X (.BinOp a .Pow b pos) (tE Z W (eBin kPow f g)) := de_op op_pow ok_pow ha hb
theorem de_cmp {op : CmpOp} {k : Val → Val → DE} {r : R2} (ho : OpR X (compareOp op) r) (hk : Ok2 Z W k r) (ha : PE X a (tE Z W f)) (hb : PE X b (tE Z W g)) (hm : behindInMarks op b = false) : PE X (.Compare a [op] [b] pos) (tE Z W (eBin k f g)) :=
  (pe_cmpR ho ha hb hm).weak fun σ H Q h => t2 hk h
/-- a comparison's rule: what it is on values -/
structure CmpK (X : Cx) (Z : Zy) (W : WX) (op : CmpOp) (k : Val → Val → DE) : Prop where
  ex : ∃ r, OpR X (compareOp op) r ∧ Ok2 Z W k r
theorem c_lt : CmpK X Z W .Lt kLt := ⟨_, op_rI0 op_lt, ok_cmp⟩
theorem c_le : CmpK X Z W .LtE kLe := ⟨_, op_rI0 op_le, ok_cmp⟩
theorem c_gt : CmpK X Z W .Gt kGt := ⟨_, op_rI0 op_gt, ok_cmp⟩
theorem c_ge : CmpK X Z W .GtE kGe := ⟨_, op_rI0 op_ge, ok_cmp⟩
theorem c_eq {k : Nat} (hK : X.K = Z.K) (hr : Room k X.A) : CmpK X Z W .Eq kEq := ⟨rEqD Z.K, by rw [← hK]; exact op_eqD hr.units, ok_eq⟩
theorem c_ne {k : Nat} (hK : X.K = Z.K) (hr : Room k X.A) : CmpK X Z W .NotEq kNe := ⟨rNeD Z.K, by rw [← hK]; exact op_neD hr.units, ok_ne⟩
theorem c_isN : CmpK X Z W .Is (kIsN false) := ⟨_, op_isN, ok_isN false⟩
theorem c_notN : CmpK X Z W .IsNot (kIsN true) := ⟨_, op_notN, ok_isN true⟩
theorem c_notB : CmpK X Z W .IsNot (kIsB true) := ⟨_, op_notBl, ok_isB true⟩
theorem c_inS : CmpK X Z W .In (kInS false) := ⟨_, op_in_sign, ok_inS false⟩
theorem c_notInS : CmpK X Z W .NotIn (kInS true) := ⟨_, op_notIn_sign, ok_inS true⟩
theorem de_cmpK {op : CmpOp} {k : Val → Val → DE} (c : CmpK X Z W op k) (ha : PE X a (tE Z W f)) (hb : PE X b (tE Z W g)) (hm : behindInMarks op b = false := by first | exact nomark _ (by decide) (by decide) | rfl) : PE X (.Compare a [op] [b] pos) (tE Z W (eBin k f g)) := by
  obtain ⟨r, ho, hk⟩ := c.ex
  exact de_cmp ho hk ha hb hm
theorem de_ix (hK : X.K = Z.K) (ha : PE X a (tE Z W f)) (hb : PE X b (tE Z W g)) (hs : PlainIx b := by exact fun _ _ => rfl) : PE X (.Subscript a b pos) (tE Z W (eBin kIx f g)) :=
  (pe_ix (r := rIx Z.K) (by rw [← hK]; exact ix_seq) ha hb hs).weak fun σ H Q h => t2 ok_ix h
/-- and, or, not, if: values that are bools -/
theorem PostE.bool {A F σ Q} {k : Bool → DE} {v : Val} {x : V} {sl ce} (r : VRep Z A F v x) (p : PostE Z A F W σ Q (kBool k v sl ce)) : ∃ b, x = .bl b ∧ PostE Z A F W σ Q (k b sl ce) := by
  unfold kBool at p
  split at p
  · exact ⟨_, rep_bl r, p⟩
  · exact p.elim
theorem de_and {rest} (ha : PE X a (tE Z W f)) (hb : PE X (.BoolOp .And (b :: rest) pos) (tE Z W g)) : PE X (.BoolOp .And (a :: b :: rest) pos) (tE Z W (eAnd f g)) :=
  (pe_and ha hb).weak fun σ H Q h => tE_imp (fun x H1 ⟨A, F, sl, ce, v, so, hs, r, p⟩ => by
    obtain ⟨b, rfl, p⟩ := p.bool r
    refine ⟨b, rfl, ?_⟩
    cases b with
    | true => exact iteT ⟨A, F, sl, ce, so, hs, p⟩
    | false => exact iteF (fin_flat so p repB)) (tE1 h)
theorem de_or {rest} (ha : PE X a (tE Z W f)) (hb : PE X (.BoolOp .Or (b :: rest) pos) (tE Z W g)) : PE X (.BoolOp .Or (a :: b :: rest) pos) (tE Z W (eOr f g)) :=
  (pe_or ha hb).weak fun σ H Q h => tE_imp (fun x H1 ⟨A, F, sl, ce, v, so, hs, r, p⟩ => by
    obtain ⟨b, rfl, p⟩ := p.bool r
    refine ⟨b, rfl, ?_⟩
    cases b with
    | true => exact iteT (fin_flat so p repB)
    | false => exact iteF ⟨A, F, sl, ce, so, hs, p⟩) (tE1 h)
theorem de_one {op} (h : PE X a (tE Z W f)) : PE X (.BoolOp op [a] pos) (tE Z W f) := pe_one h
theorem de_not (ha : PE X a (tE Z W f)) : PE X (.UnaryOp .Not a pos) (tE Z W (eNot f)) :=
  (pe_not ha).weak fun σ H Q h => tE_imp (fun x H1 ⟨A, F, sl, ce, v, so, hs, r, p⟩ => by
    obtain ⟨b, rfl, p⟩ := p.bool r
    exact ⟨b, rfl, fin_flat so p repB⟩) (tE1 h)
/-- a test -/
def tT (Z : Zy) (W : WX) (f : DE) : TT := fun σ H Q => tE Z W f σ H fun x H' => ∃ b, x = .bl b ∧ Q b H'
theorem dt_val {e : Expr} (h : PE X e (tE Z W f)) (he : ∀ whole, isTrue e X.env whole = (do let v ← whole; standAt e.pos; holding [v] (truthy v)) := by intro _; rfl) : PT X e (tT Z W f) := pt_val h he
theorem dt_cmp {op : CmpOp} {k : Val → Val → DE} (c : CmpK X Z W op k) (ha : PE X a (tE Z W f)) (hb : PE X b (tE Z W g)) (hm : behindInMarks op b = false := by first | exact nomark _ (by decide) (by decide) | rfl) : PT X (.Compare a [op] [b] pos) (tT Z W (eBin k f g)) := by
  obtain ⟨r, ho, hk⟩ := c.ex
  exact (pt_cmpR ho ha hb hm).weak fun σ H Q h => t2 hk h
theorem dt_tru {e : Expr} (hK : X.K = Z.K) (h : PE X e (tE Z W f)) (he : ∀ whole, isTrue e X.env whole = (do let v ← whole; standAt e.pos; holding [v] (truthy v)) := by intro _; rfl) : PT X e (tT Z W (eTru f)) :=
  (pt_truth h he).weak fun σ H Q q => tE_imp (fun x H1 ⟨A, F, sl, ce, v, so, hs, r, p⟩ => by
    unfold kTru at p
    split at p
    · rename_i b e
      obtain ⟨k, e2, q⟩ := fin_flat so p repB
      cases e2
      exact ⟨b, by rw [hK]; exact truV_ok so r e, q⟩
    · exact p.elim) (tE1 (f := f) (k := kTru) q)
theorem tT_and {σ H Q} (h : tT Z W (eAnd f g) σ H Q) : tAnd (tT Z W f) (tT Z W g) σ H Q := tE_imp (fun x H1 ⟨A, F, sl, ce, v, so, hs, r, p⟩ => by
  obtain ⟨b, rfl, p⟩ := p.bool r
  refine ⟨b, rfl, ?_⟩
  cases b with
  | true => exact iteT ⟨A, F, sl, ce, so, hs, p⟩
  | false =>
    obtain ⟨c, e, q⟩ := fin_flat so p repB
    cases e
    exact iteF q) (tE1 h)
theorem tT_or {σ H Q} (h : tT Z W (eOr f g) σ H Q) : tOr (tT Z W f) (tT Z W g) σ H Q := tE_imp (fun x H1 ⟨A, F, sl, ce, v, so, hs, r, p⟩ => by
  obtain ⟨b, rfl, p⟩ := p.bool r
  refine ⟨b, rfl, ?_⟩
  cases b with
  | true =>
    obtain ⟨c, e, q⟩ := fin_flat so p repB
    cases e
    exact iteT q
  | false => exact iteF ⟨A, F, sl, ce, so, hs, p⟩) (tE1 h)
theorem _root_.L2.PW.weak {e : Expr} {t t' : TT} (h : PW X e t) (hw : ∀ σ H Q, t' σ H Q → t σ H Q) : PW X e t' :=
  ⟨fun w pins s σ H Q I q => h.run w pins s σ H Q I (hw σ H Q q)⟩
theorem dw_and1 (ha : PT X a (tT Z W f)) : PW X (.BoolOp .And [a] pos) (tT Z W f) := pw_and1 ha
theorem dw_or1 (ha : PT X a (tT Z W f)) : PW X (.BoolOp .Or [a] pos) (tT Z W f) := pw_or1 ha
theorem dw_and {rest} (ha : PT X a (tT Z W f)) (hb : PW X (.BoolOp .And (b :: rest) pos) (tT Z W g)) : PW X (.BoolOp .And (a :: b :: rest) pos) (tT Z W (eAnd f g)) := (pw_and ha hb).weak fun _ _ _ h => tT_and h
theorem dw_or {rest} (ha : PT X a (tT Z W f)) (hb : PW X (.BoolOp .Or (b :: rest) pos) (tT Z W g)) : PW X (.BoolOp .Or (a :: b :: rest) pos) (tT Z W (eOr f g)) := (pw_or ha hb).weak fun _ _ _ h => tT_or h
theorem dt_not (ha : PT X a (tT Z W f)) : PT X (.UnaryOp .Not a pos) (tT Z W (eNot f)) := (pt_not ha).weak fun σ H Q h => tE_imp (fun x H1 ⟨A, F, sl, ce, v, so, hs, r, p⟩ => by
  obtain ⟨b, rfl, p⟩ := p.bool r
  obtain ⟨c, e, q⟩ := fin_flat so p repB
  cases e
  exact ⟨b, rfl, q⟩) (tE1 (f := f) (k := kBool fun b => eC (.bl (!b))) h)
theorem de_if {c a b : Expr} (hc : PT X c (tT Z W f)) (ha : PE X a (tE Z W g)) (hb : PE X b (tE Z W h)) : PE X (.IfExp c a b pos) (tE Z W (eIf f g h)) := (pe_ifExp hc ha hb).weak fun σ H Q q => tE_imp (fun x H1 ⟨A, F, sl, ce, v, so, hs, r, p⟩ => by
  obtain ⟨b, rfl, p⟩ := p.bool r
  refine ⟨b, rfl, ?_⟩
  cases b with
  | true => exact iteT ⟨A, F, sl, ce, so, hs, p⟩
  | false => exact iteF ⟨A, F, sl, ce, so, hs, p⟩) (tE1 (f := f) (k := kBool fun b => if b then g else h) q)
theorem t_chain {k k' : Val → Val → DE} {r r' : R2} (hk : Ok2 Z W k r) (hk' : Ok2 Z W k' r') {σ H Q} (q : tE Z W (eChain k k' f g h) σ H Q) : tChain r r' (tE Z W f) (tE Z W g) (tE Z W h) σ H Q := by
  refine tE_imp (fun x H1 h1 => tE_imp (fun y H2 ⟨A, F, sl, ce, v, u, so, hs, rv, ru, p⟩ => ?_) h1) (tE2 (f := f) (g := g) (k := fun v u => eBind (k v u) (kBool fun b => if b then eBind h (k' u) else eC (.bl false))) q)
  refine hk A F sl ce v u x y H2 σ _ so hs rv ru ((PostE.bind so hs p).imp fun z H3 ⟨A3, F3, ce3, w3, p3, e3, so3, r3, q3⟩ => ?_)
  obtain ⟨b, rfl, q3⟩ := q3.bool r3
  refine ⟨b, rfl, ?_⟩
  cases b with
  | true =>
    refine iteT ⟨A3, F3, sl, ce3, so3, hs.mono p3 e3, (PostE.bind so3 (hs.mono p3 e3) q3).imp fun z4 H4 ⟨A4, F4, ce4, w4, p4, e4, so4, r4, q4⟩ => ?_⟩
    exact hk' A4 F4 sl ce4 u w4 y z4 H4 σ Q so4 ((hs.mono p3 e3).mono p4 e4) ((ru.mono p3 e3).mono p4 e4) r4 q4
  | false => exact iteF (fin_flat so3 q3 repB)
theorem de_chain {op op' : CmpOp} {k k' : Val → Val → DE} (ck : CmpK X Z W op k) (ck' : CmpK X Z W op' k') (ha : PE X a (tE Z W f)) (hb : PE X b (tE Z W g)) (hc : PE X c (tE Z W h))
    (hm : lastMarks [op, op'] [b, c] = false := by with_unfolding_all rfl) : PE X (.Compare a [op, op'] [b, c] pos) (tE Z W (eChain k k' f g h)) := by
  obtain ⟨r, ho, hk⟩ := ck.ex
  obtain ⟨r', ho', hk'⟩ := ck'.ex
  exact (pe_chain ho ho' ha hb hc hm).weak fun σ H Q q => t_chain hk hk' q
theorem dt_chain {op op' : CmpOp} {k k' : Val → Val → DE} (ck : CmpK X Z W op k) (ck' : CmpK X Z W op' k') (ha : PE X a (tE Z W f)) (hb : PE X b (tE Z W g)) (hc : PE X c (tE Z W h))
    (hm : lastMarks [op, op'] [b, c] = false := by with_unfolding_all rfl) : PT X (.Compare a [op, op'] [b, c] pos) (tT Z W (eChain k k' f g h)) := by
  obtain ⟨r, ho, hk⟩ := ck.ex
  obtain ⟨r', ho', hk'⟩ := ck'.ex
  exact (pt_chain ho ho' ha hb hc hm).weak fun σ H Q q => t_chain hk hk' q
end
end ZZ
set_option Elab.async false
set_option linter.all false
set_option maxRecDepth 100000
namespace ZZ
open PySem PySem.Spec L2
def eArgs : List DE → (List Val → DE) → DE
  | [], k => k []
  | f :: fs, k => eBind f fun v => eArgs fs fun vs => k (v :: vs)
def tArgs (Z : Zy) (W : WX) : List DE → TA
  | [] => tNil
  | f :: fs => tCons (tE Z W f) (tArgs Z W fs)
def VReps (Z : Zy) (A : List Addr) (F : Hp) : List Val → List V → Prop
  | [], xs => xs = []
  | v :: vs, xs => ∃ x r, xs = x :: r ∧ VRep Z A F v x ∧ VReps Z A F vs r
section
variable {Z : Zy} {A A' : List Addr} {F F' H : Hp} {ce : List Cell} {sl : Sl} {σ : L2.St} {W : WX} {Q Q' : VK}
theorem VReps.length : ∀ {vs : List Val} {xs : List V}, VReps Z A F vs xs → vs.length = xs.length
  | [], xs, h => by unfold VReps at h; subst h; rfl
  | v :: vs, xs, h => by
    obtain ⟨x, r, rfl, _, h2⟩ := h
    simp [VReps.length h2]
theorem VReps.mono (p : A <+: A') (e : Same F F') : ∀ {vs : List Val} {xs : List V}, VReps Z A F vs xs → VReps Z A' F' vs xs
  | [], xs, h => h
  | v :: vs, xs, h => by
    obtain ⟨x, r, rfl, h1, h2⟩ := h
    exact ⟨x, r, rfl, h1.mono p e, VReps.mono p e h2⟩
theorem vreps1 {v : Val} {xs : List V} (h : VReps Z A F [v] xs) : ∃ x, xs = [x] ∧ VRep Z A F v x := by
  obtain ⟨x, r, rfl, h1, h2⟩ := h
  unfold VReps at h2
  subst h2
  exact ⟨x, rfl, h1⟩
theorem vreps2 {v u : Val} {xs : List V} (h : VReps Z A F [v, u] xs) : ∃ x y, xs = [x, y] ∧ VRep Z A F v x ∧ VRep Z A F u y := by
  obtain ⟨x, r, rfl, h1, h2⟩ := h
  replace h2 := vreps1 h2; obtain ⟨y, rfl, h2⟩ := h2
  exact ⟨x, y, rfl, h1, h2⟩
theorem tArgs_imp : ∀ {fs : List DE} {σ : L2.St} {H : Hp} {Q Q' : List V → Hp → Prop}, (∀ x H, Q x H → Q' x H) → tArgs Z W fs σ H Q → tArgs Z W fs σ H Q'
  | [], _, _, _, _, h, q => h _ _ q
  | f :: fs, _, _, _, _, h, q => tE_imp (fun x H1 q1 => tArgs_imp (fun xs H2 q2 => h _ _ q2) q1) q
theorem tArgs_ok : ∀ {fs : List DE} {k : List Val → DE} {A : List Addr} {F H : Hp} {ce : List Cell}, SO Z.toZx A F ce H → SL Z A F sl σ → PostE Z A F W σ Q (eArgs fs k sl ce) →
    tArgs Z W fs σ H fun xs H1 => ∃ A1 F1 ce1 vs, A <+: A1 ∧ Same F F1 ∧ SO Z.toZx A1 F1 ce1 H1 ∧ VReps Z A1 F1 vs xs ∧ vs.length = fs.length ∧ PostE Z A1 F1 W σ Q (k vs sl ce1)
  | [], k, A, F, H, ce, so, hs, p => ⟨A, F, ce, [], List.prefix_refl _, Same.refl _, so, rfl, rfl, p⟩
  | f :: fs, k, A, F, H, ce, so, hs, p => ⟨A, F, sl, ce, so, hs, (PostE.bind so hs p).imp fun x H1 ⟨A1, F1, ce1, v, p1, e1, s1, r1, q1⟩ =>
      tArgs_imp (fun xs H2 ⟨A2, F2, ce2, vs, p2, e2, s2, r2, l2, q2⟩ => ⟨A2, F2, ce2, v :: vs, p1.trans p2, e1.trans e2, s2, ⟨x, xs, rfl, r1.mono p2 e2, r2⟩, by simp [l2], q2⟩) (tArgs_ok s1 (hs.mono p1 e1) q1)⟩
theorem tN {fs : List DE} {k : List Val → DE} (h : tE Z W (eArgs fs k) σ H Q) :
    tArgs Z W fs σ H fun xs H1 => ∃ A F sl ce vs, SO Z.toZx A F ce H1 ∧ SL Z A F sl σ ∧ VReps Z A F vs xs ∧ vs.length = fs.length ∧ PostE Z A F W σ Q (k vs sl ce) := by
  obtain ⟨A, F, sl, ce, so, hs, p⟩ := h
  exact tArgs_imp (fun xs H2 ⟨A2, F2, ce2, vs, p2, e2, s2, r2, l2, q2⟩ => ⟨A2, F2, sl, ce2, vs, s2, hs.mono p2 e2, r2, l2, q2⟩) (tArgs_ok so hs p)
def ims : List Val → Option (List D)
  | [] => some []
  | .im d :: vs => (ims vs).map (d :: ·)
  | _ :: _ => none
theorem ims_rd : ∀ {vs : List Val} {xs : List V} {ds : List D}, VReps Z A F vs xs → ims vs = some ds → Reps Z.toZx F ds xs
  | [], xs, ds, r, e => by
    unfold VReps at r; subst r; cases e; exact reps_nil
  | .im d :: vs, xs, ds, r, e => by
    obtain ⟨x, r', rfl, h1, h2⟩ := r
    unfold ims at e
    cases q : ims vs with
    | none => rw [q] at e; cases e
    | some es => rw [q] at e; cases e; exact reps_cons h1 (ims_rd h2 q)
  | .cell _ :: _, xs, ds, r, e => by cases e
  | .exn _ _ :: _, xs, ds, r, e => by cases e
end
def kTup (vs : List Val) : DE := fun _ ce => match ims vs with
  | some ds => if ds.length ≤ LINE then .ok (.im (.tup ds)) ce else .stuck
  | none => .stuck
def kLst (vs : List Val) : DE := fun _ ce => match ims vs with
  | some ds => if ds.length ≤ LINE then .ok (.im (.lst ds)) ce else .stuck
  | none => .stuck
def kLstC (vs : List Val) : DE := fun _ ce => match ims vs with
  | some ds => if ds.length ≤ LINE then .ok (.cell ce.length) (ce ++ [.lst ds]) else .stuck
  | none => .stuck
def OkN (Z : Zy) (W : WX) (k : List Val → DE) (r : List V → Hp → VK → Prop) : Prop := ∀ A F sl ce vs xs H σ Q, SO Z.toZx A F ce H → SL Z A F sl σ → VReps Z A F vs xs → PostE Z A F W σ Q (k vs sl ce) → r xs H Q
section
variable {X : Cx} {Z : Zy} {W : WX} {a b c : Expr} {es : List Expr} {f g h : DE} {fs : List DE} {pos : Pos}
theorem da_nil : PA X [] (tArgs Z W []) := pa_nil
theorem da_cons {e : Expr} (ha : PE X e (tE Z W f)) (hr : PA X es (tArgs Z W fs)) (hs : starEach (e :: es) X.env = (false, eval e X.env) :: starEach es X.env := by rfl) : PA X (e :: es) (tArgs Z W (f :: fs)) := pa_cons ha hr hs
theorem de_tup {n} (ha : PA X es (tArgs Z W fs)) : PE X (.Tuple es n pos) (tE Z W (eArgs fs kTup)) := (pe_tup ha).weak fun σ H Q h => tArgs_imp (fun xs H1 ⟨A, F, sl, ce, vs, so, hs, r, _, p⟩ => by
  unfold kTup at p
  split at p
  · rename_i ds e
    have rr := ims_rd (Z := Z) r e
    split at p
    · rename_i hl
      exact ⟨by rw [sizeLine_eq, ← rr.length]; exact hl, fun q hq => fin_newT so p rr hq⟩
    · exact p.elim
  · exact p.elim) (tN h)
theorem de_lst (ha : PA X es (tArgs Z W fs)) : PE X (.List es pos) (tE Z W (eArgs fs kLst)) := (pe_lst ha).weak fun σ H Q h => tArgs_imp (fun xs H1 ⟨A, F, sl, ce, vs, so, hs, r, _, p⟩ => by
  unfold kLst at p
  split at p
  · rename_i ds e
    have rr := ims_rd (Z := Z) r e
    split at p
    · rename_i hl
      exact ⟨by rw [sizeLine_eq, ← rr.length]; exact hl, fun q hq => fin_newL so p rr hq⟩
    · exact p.elim
  · exact p.elim) (tN h)
theorem de_lstC (ha : PA X es (tArgs Z W fs)) : PE X (.List es pos) (tE Z W (eArgs fs kLstC)) := (pe_lst ha).weak fun σ H Q h => tArgs_imp (fun xs H1 ⟨A, F, sl, ce, vs, so, hs, r, _, p⟩ => by
  unfold kLstC at p
  split at p
  · rename_i ds e
    have rr := ims_rd (Z := Z) r e
    split at p
    · rename_i hl
      exact ⟨by rw [sizeLine_eq, ← rr.length]; exact hl, fun q hq => fin_newC so p rr hq⟩
    · exact p.elim
  · exact p.elim) (tN h)
theorem de_callB {id : String} {x : Str} {p : Pos} {e : Expr} {k : List Val → DE} {r : List V → Hp → VK → Prop} (hc : CallR X (.builtin id) r) (hk : OkN Z W k r) (hm : X.mg x = none) (hv : bootBuiltins x = some (.builtin id)) (ha : PA X (e :: es) (tArgs Z W fs))
    (hg : Gl X x := by rfl) (hn : x ≠ "__name__" := by decide) (hdb : (x == ("__debug__" : Str)) = false := by decide)
    (he : starEach (e :: es) X.env = (false, eval e X.env) :: starEach es X.env := by rfl) (hpl : (backTo pos (starEach es X.env)).any (·.1) = false := by rfl) : PE X (.Call (.Name x p) (e :: es) [] pos) (tE Z W (eArgs fs k)) :=
  (pe_callB hc hg hm hv ha hn hdb he hpl).weak fun σ H Q h => tArgs_imp (fun xs H1 ⟨A, F, sl, ce, vs, so, hs, r, _, p⟩ => hk A F sl ce vs xs H1 σ Q so hs r p) (tN h)
theorem de_callTy {T : String} {x : Str} {p : Pos} {e : Expr} {k : List Val → DE} {r : List V → Hp → VK → Prop} (hc : CallR X (.type T) r) (hk : OkN Z W k r) (hm : X.mg x = none) (hv : bootBuiltins x = some (.type T)) (ha : PA X (e :: es) (tArgs Z W fs))
    (hg : Gl X x := by rfl) (hn : x ≠ "__name__" := by decide) (hdb : (x == ("__debug__" : Str)) = false := by decide)
    (he : starEach (e :: es) X.env = (false, eval e X.env) :: starEach es X.env := by rfl) (hpl : (backTo pos (starEach es X.env)).any (·.1) = false := by rfl) : PE X (.Call (.Name x p) (e :: es) [] pos) (tE Z W (eArgs fs k)) :=
  (pe_callTy hc hg hm hv ha hn hdb he hpl).weak fun σ H Q h => tArgs_imp (fun xs H1 ⟨A, F, sl, ce, vs, so, hs, r, _, p⟩ => hk A F sl ce vs xs H1 σ Q so hs r p) (tN h)
end
def kLen : List Val → DE
  | [v] => fun _ ce => match v with
    | .im (.str s) => if s.length ≤ LINE then .ok (.im (.int s.length)) ce else .stuck
    | v => match asSq ce v with
      | some ds => .ok (.im (.int ds.length)) ce
      | none => .stuck
  | _ => kStuck
def kAbs : List Val → DE
  | [.im (.int i)] => eC (.int (if i < 0 then -i else i))
  | _ => kStuck
def kMin : List Val → DE
  | [.im (.int i), .im (.int j)] => eC (.int (if j < i then j else i))
  | _ => kStuck
def kMax : List Val → DE
  | [.im (.int i), .im (.int j)] => eC (.int (if j > i then j else i))
  | _ => kStuck
def kInt : List Val → DE
  | [.im (.int i)] => eC (.int i)
  | [.im (.bl k)] => eC (.int (if k then 1 else 0))
  | _ => kStuck
/-- list(x), a new one that may change -/
def kListC : List Val → DE
  | [v] => fun _ ce => match asSq ce v with
    | some ds => .ok (.cell ce.length) (ce ++ [.lst ds])
    | none => .stuck
  | _ => kStuck
def kListI : List Val → DE
  | [v] => fun _ ce => match asSq ce v with
    | some ds => .ok (.im (.lst ds)) ce
    | none => .stuck
  | _ => kStuck
def asInts : List D → Option (List Int)
  | [] => some []
  | .int i :: ds => (asInts ds).map (i :: ·)
  | _ :: _ => none
def asBls : List D → Option (List Bool)
  | [] => some []
  | .bl i :: ds => (asBls ds).map (i :: ·)
  | _ :: _ => none
/-- the list's items, by an own or a settled list -/
def kSum : List Val → DE
  | [v] => fun _ ce => match asL ce v with
    | some ds => match asInts ds with
      | some ns => .ok (.im (.int ns.sum)) ce
      | none => .stuck
    | none => .stuck
  | _ => kStuck
def kAll : List Val → DE
  | [v] => fun _ ce => match asL ce v with
    | some ds => match asBls ds with
      | some bs => .ok (.im (.bl (bs.all id))) ce
      | none => .stuck
    | none => .stuck
  | _ => kStuck
section
variable {X : Cx} {Z : Zy} {W : WX} {A : List Addr} {F H : Hp} {ce : List Cell} {sl : Sl} {σ : L2.St} {Q : VK}
theorem reps_ints : ∀ {ds : List D} {vs : List V} {ns : List Int}, Reps Z.toZx F ds vs → asInts ds = some ns → vs = ns.map V.int
  | [], vs, ns, r, e => by rw [reps_nil_inv r]; cases e; rfl
  | d :: ds, vs, ns, r, e => by
    obtain ⟨v, r', rfl, h1, h2⟩ := reps_cons_inv r
    cases d with
    | int i =>
      unfold asInts at e
      cases q : asInts ds with
      | none => rw [q] at e; cases e
      | some ms =>
        rw [q] at e; cases e
        unfold Rep at h1
        rw [h1, reps_ints h2 q]; rfl
    | _ => cases e
theorem reps_bls : ∀ {ds : List D} {vs : List V} {ns : List Bool}, Reps Z.toZx F ds vs → asBls ds = some ns → vs = ns.map V.bl
  | [], vs, ns, r, e => by rw [reps_nil_inv r]; cases e; rfl
  | d :: ds, vs, ns, r, e => by
    obtain ⟨v, r', rfl, h1, h2⟩ := reps_cons_inv r
    cases d with
    | bl i =>
      unfold asBls at e
      cases q : asBls ds with
      | none => rw [q] at e; cases e
      | some ms =>
        rw [q] at e; cases e
        unfold Rep at h1
        rw [h1, reps_bls h2 q]; rfl
    | _ => cases e
theorem ok_len (hK : X.K = Z.K) : OkN Z W kLen (fun xs H Q => ∃ x n, xs = [x] ∧ LenV X.K x H n ∧ Q (.int n) H) := by
  intro A F sl ce vs xs H σ Q so hs r p
  rw [hK]
  unfold kLen at p
  split at p
  · replace r := vreps1 r; obtain ⟨x, rfl, r⟩ := r
    split at p
    · split at p
      · rename_i s hl
        rw [rep_str r]
        exact ⟨_, s.length, rfl, ⟨by rw [sizeLine_eq]; exact hl, rfl⟩, fin_flat so p repI⟩
      · exact p.elim
    · split at p
      · rename_i ds e
        obtain ⟨l, ws, rfl, h1, h2⟩ := asSq_rd so r e
        refine ⟨_, ds.length, rfl, ?_, fin_flat so p repI⟩
        rcases h1 with h1 | h1
        · exact .inl ⟨ws, h1, h2.length⟩
        · exact .inr ⟨ws, h1, h2.length⟩
      · exact p.elim
  · exact p.elim
theorem ok_abs : OkN Z W kAbs (fun xs H Q => ∃ i, xs = [.int i] ∧ Q (.int (if i < 0 then -i else i)) H) := by
  intro A F sl ce vs xs H σ Q so hs r p
  unfold kAbs at p
  split at p
  · replace r := vreps1 r; obtain ⟨x, rfl, r⟩ := r
    rw [rep_int r]
    exact ⟨_, rfl, fin_flat so p repI⟩
  · exact p.elim
theorem ok_min : OkN Z W kMin (fun xs H Q => ∃ i j, xs = [.int i, .int j] ∧ Q (.int (if j < i then j else i)) H) := by
  intro A F sl ce vs xs H σ Q so hs r p
  unfold kMin at p
  split at p
  · replace r := vreps2 r; obtain ⟨x, y, rfl, r, r'⟩ := r
    rw [rep_int r, rep_int r']
    exact ⟨_, _, rfl, fin_flat so p repI⟩
  · exact p.elim
theorem ok_int1 : OkN Z W kInt (fun xs H Q => (∃ i, xs = [.int i] ∧ Q (.int i) H) ∨ ∃ k, xs = [.bl k] ∧ Q (.int (if k then 1 else 0)) H) := by
  intro A F sl ce vs xs H σ Q so hs r p
  unfold kInt at p
  split at p
  · replace r := vreps1 r; obtain ⟨x, rfl, r⟩ := r
    rw [rep_int r]
    exact .inl ⟨_, rfl, fin_flat so p repI⟩
  · replace r := vreps1 r; obtain ⟨x, rfl, r⟩ := r
    rw [rep_bl r]
    exact .inr ⟨_, rfl, fin_flat so p repI⟩
  · exact p.elim
theorem ok_listC (hK : X.K = Z.K) : OkN Z W kListC (fun xs H Q => ∃ p ys, xs = [.ref p] ∧ (SqL X.K H p ys ∨ SqT X.K H p ys) ∧ ∀ l, H l = none → Q (.ref l) (upd H l (.lst ys))) := by
  intro A F sl ce vs xs H σ Q so hs r p
  rw [hK]
  unfold kListC at p
  split at p
  · replace r := vreps1 r; obtain ⟨x, rfl, r⟩ := r
    split at p
    · rename_i ds e
      obtain ⟨l, ws, rfl, h1, h2⟩ := asSq_rd so r e
      exact ⟨l, ws, rfl, h1, fun q hq => fin_newC so p h2 hq⟩
    · exact p.elim
  · exact p.elim
theorem ok_listI (hK : X.K = Z.K) : OkN Z W kListI (fun xs H Q => ∃ p ys, xs = [.ref p] ∧ (SqL X.K H p ys ∨ SqT X.K H p ys) ∧ ∀ l, H l = none → Q (.ref l) (upd H l (.lst ys))) := by
  intro A F sl ce vs xs H σ Q so hs r p
  rw [hK]
  unfold kListI at p
  split at p
  · replace r := vreps1 r; obtain ⟨x, rfl, r⟩ := r
    split at p
    · rename_i ds e
      obtain ⟨l, ws, rfl, h1, h2⟩ := asSq_rd so r e
      exact ⟨l, ws, rfl, h1, fun q hq => fin_newL so p h2 hq⟩
    · exact p.elim
  · exact p.elim
theorem ok_sum (hK : X.K = Z.K) : OkN Z W kSum (rSum X.K) := by
  intro A F sl ce vs xs H σ Q so hs r p
  rw [hK]
  unfold kSum at p
  split at p
  · replace r := vreps1 r; obtain ⟨x, rfl, r⟩ := r
    split at p
    · rename_i ds e
      split at p
      · rename_i ns e2
        obtain ⟨l, ws, rfl, h1, h2⟩ := asL_rd so r e
        have := reps_ints h2 e2
        subst this
        exact ⟨l, ns, rfl, SqL.of h1, fin_flat so p repI⟩
      · exact p.elim
    · exact p.elim
  · exact p.elim
theorem ok_all (hK : X.K = Z.K) : OkN Z W kAll (rAll X.K) := by
  intro A F sl ce vs xs H σ Q so hs r p
  rw [hK]
  unfold kAll at p
  split at p
  · replace r := vreps1 r; obtain ⟨x, rfl, r⟩ := r
    split at p
    · rename_i ds e
      split at p
      · rename_i ns e2
        obtain ⟨l, ws, rfl, h1, h2⟩ := asL_rd so r e
        have := reps_bls h2 e2
        subst this
        exact ⟨l, ns, rfl, SqL.of h1, fin_flat so p repB⟩
      · exact p.elim
    · exact p.elim
  · exact p.elim
end
def eOpt : Option DE → (Option Int → DE) → DE
  | none, k => k none
  | some f, k => eBind f fun v => match v with
    | .im (.int i) => k (some i)
    | _ => kStuck
def cutD (xs : List D) (lo hi : Option Int) : List D := (xs.drop (HT.sIx xs.length 0 lo)).take (HT.sIx xs.length xs.length hi - HT.sIx xs.length 0 lo)
def kSlL (v : Val) (lo hi : Option Int) : DE := fun _ ce => match v with
  | .im (.str z) => if z.length ≤ LINE then .ok (.im (.str (cutS z lo hi))) ce else .stuck
  | v => match asL ce v with
    | some ds => .ok (.im (.lst (cutD ds lo hi))) ce
    | none => .stuck
def eSlice (f : DE) (lo hi : Option DE) : DE := eBind f fun v => eOpt lo fun l => eOpt hi fun h => kSlL v l h
def rSlA (K : PySem.W.Frag) : V → Option Int → Option Int → Hp → VK → Prop := fun x lo hi H Q => rSlL K x lo hi H Q ∨ rSlS x lo hi H Q
section
variable {X : Cx} {Z : Zy} {W : WX} {a b c : Expr} {f g h : DE} {pos : Pos}
theorem sl_any : SlR X (rSlA X.K) := sl_list.or sl_str
def tOpt (Z : Zy) (W : WX) : Option DE → TO
  | none => tNoPart
  | some f => tPart (tE Z W f)
theorem dp_none : PO X none (tOpt Z W none) := po_none
theorem dp_some {e : Expr} (h : PE X e (tE Z W f)) : PO X (some e) (tOpt Z W (some f)) := po_some h
theorem opt_ok {fo : Option DE} {k : Option Int → DE} {A F sl ce H σ Q} {R : Option Int → Hp → Prop} (so : SO Z.toZx A F ce H) (hs : SL Z A F sl σ) (p : PostE Z A F W σ Q (eOpt fo k sl ce))
    (hR : ∀ A1 F1 ce1 i H1, A <+: A1 → Same F F1 → SO Z.toZx A1 F1 ce1 H1 → PostE Z A1 F1 W σ Q (k i sl ce1) → R i H1) : tOpt Z W fo σ H R := by
  cases fo with
  | none => exact hR A F ce none H (List.prefix_refl _) (Same.refl _) so p
  | some f =>
    refine ⟨A, F, sl, ce, so, hs, (PostE.bind so hs p).imp fun x H1 ⟨A1, F1, ce1, v, p1, e1, s1, r1, q1⟩ => ?_⟩
    split at q1
    · exact ⟨_, rep_int r1, hR A1 F1 ce1 _ H1 p1 e1 s1 q1⟩
    · exact q1.elim
theorem reps_cut {F : Hp} {ds : List D} {vs : List V} (lo hi : Option Int) (r : Reps Z.toZx F ds vs) : Reps Z.toZx F (cutD ds lo hi) (cutV vs lo hi) := by
  unfold cutD cutV
  rw [r.length]
  exact (r.drop _).take _
theorem de_slice {e : Expr} {lo hi : Option Expr} {fl fh : Option DE} {p2 : Pos} (hK : X.K = Z.K) (he : PE X e (tE Z W f)) (hl : PO X lo (tOpt Z W fl)) (hu : PO X hi (tOpt Z W fh)) : PE X (.Subscript e (.Slice lo hi none p2) pos) (tE Z W (eSlice f fl fh)) :=
  (pe_slice (r := rSlA Z.K) (by rw [← hK]; exact sl_any) he hl hu).weak fun σ H Q q => tE_imp (fun x H1 ⟨A, F, sl, ce, v, so, hs, r, p⟩ => by
    refine opt_ok so hs p fun A1 F1 ce1 i H2 p1 e1 so1 q1 => opt_ok so1 (hs.mono p1 e1) q1 fun A2 F2 ce2 j H3 p2 e2 so2 q2 => ?_
    have r2 := (r.mono p1 e1).mono p2 e2
    unfold kSlL at q2
    split at q2
    · split at q2
      · rename_i z hz
        exact .inr ⟨z, rep_str r2, by rw [sizeLine_eq]; exact hz, fin_flat so2 q2 repS⟩
      · exact q2.elim
    · split at q2
      · rename_i ds e
        obtain ⟨l, ws, rfl, h1, h2⟩ := asL_rd so2 r2 e
        exact .inl ⟨l, ws, rfl, SqL.of h1, fun q hq => fin_newL so2 q2 (reps_cut i j h2) hq⟩
      · exact q2.elim) (tE1 q)
end
def OkM (Z : Zy) (W : WX) (K : PySem.W.Frag) (T : String) (ty : List Cell → Val → Bool) (k : Val → List Val → DE) (r : V → List V → Hp → VK → Prop) : Prop :=
  (∀ A F ce v x H, SO Z.toZx A F ce H → VRep Z A F v x → ty ce v = true → tyV K T x H) ∧
  ∀ A F sl ce v x vs xs H σ Q, SO Z.toZx A F ce H → SL Z A F sl σ → VRep Z A F v x → VReps Z A F vs xs → PostE Z A F W σ Q (k v vs sl ce) → r x xs H Q
/-- the value's type is looked at, then the arguments -/
def eMth (ty : List Cell → Val → Bool) (k : Val → List Val → DE) (f : DE) (fs : List DE) : DE := eBind f fun v sl ce => if ty ce v then eArgs fs (k v) sl ce else .stuck
def tyL (ce : List Cell) (v : Val) : Bool := (asL ce v).isSome
def tyS (_ : List Cell) : Val → Bool
  | .im (.str _) => true
  | _ => false
section
variable {X : Cx} {Z : Zy} {W : WX} {o e : Expr} {es : List Expr} {f g h : DE} {fs : List DE} {pos apos cpos : Pos} {T id : String} {name : Str} {ty : List Cell → Val → Bool} {k : Val → List Val → DE} {r : V → List V → Hp → VK → Prop}
theorem de_bm (pa : PlainAttrs T) (slot : Slot T name id) (hty : typeOf (.builtin id) = pure (.type "method_descriptor")) (hm : MtR X id r) (hk : OkM Z W X.K T ty k r) (ho : PE X o (tE Z W f)) (ha : PA X (e :: es) (tArgs Z W fs))
    (hb : attributeBase o name X.env (eval o X.env) = eval o X.env := by rfl) (hl : (apos.endLine == cpos.line) = true := by rfl) (hs : starEach (e :: es) X.env = (false, eval e X.env) :: starEach es X.env := by rfl) (hpl : (backTo cpos (starEach es X.env)).any (·.1) = false := by rfl) (hfew : ((backTo cpos (starEach (e :: es) X.env)).all (fun x => !x.1) && (backToKw cpos (keywordEach [] X.env)).all (fun x => x.1.isSome)
      && decide ((e :: es).length + ([] : List Keyword).length + (if ([] : List Keyword).isEmpty then 0 else 1) < 30)) = true := by rfl) :
    PE X (.Call (.Attribute o name apos) (e :: es) [] cpos) (tE Z W (eMth ty k f fs)) := by
  refine (pe_bm pa slot hty hm ho ha hb hfew hl hs hpl).weak fun σ H Q q => tE_imp (fun x H1 ⟨A, F, sl, ce, v, so, hs, r, p⟩ => ?_) (tE1 q)
  by_cases ht : ty ce v = true
  · rw [if_pos ht] at p
    exact ⟨hk.1 A F ce v x H1 so r ht, tArgs_imp (fun xs H2 ⟨A2, F2, ce2, vs, p2, e2, s2, r2, l2, q2⟩ => hk.2 A2 F2 sl ce2 v x vs xs H2 σ Q s2 (hs.mono p2 e2) (r.mono p2 e2) r2 q2) (tArgs_ok so hs p)⟩
  · rw [if_neg ht] at p
    exact p.elim
end
section
variable {X : Cx} {Z : Zy} {W : WX}
theorem tyL_ok (hK : X.K = Z.K) : ∀ (A : List Addr) (F : Hp) (ce : List Cell) (v : Val) (x : V) (H : Hp), SO Z.toZx A F ce H → VRep Z A F v x → tyL ce v = true → tyV X.K "list" x H := by
  intro A F ce v x H so r t
  unfold tyL at t
  cases e : asL ce v with
  | none => rw [e] at t; cases t
  | some ds =>
    obtain ⟨l, ws, rfl, h1, h2⟩ := asL_rd so r e
    exact .inl ⟨rfl, ws, SqL.of h1⟩
theorem tyS_ok : ∀ (A : List Addr) (F : Hp) (ce : List Cell) (v : Val) (x : V) (H : Hp), SO Z.toZx A F ce H → VRep Z A F v x → tyS ce v = true → tyV X.K "str" x H := by
  intro A F ce v x H so r t
  unfold tyS at t
  split at t
  · rw [rep_str r]; rfl
  · cases t
end
def kAppend (v : Val) (vs : List Val) : DE := fun _ ce => match v, vs with
  | .cell n, [.im d] => match ce[n]? with
    | some (.lst ds) => if ds.length < LINE then .ok (.im .non) (ce.set n (.lst (ds ++ [d]))) else .stuck
    | _ => .stuck
  | _, _ => .stuck
/-- xs.pop(i) -/
def kPopAt (v : Val) (vs : List Val) : DE := fun _ ce => match v, vs with
  | .cell n, [.im (.int i)] => match ce[n]? with
    | some (.lst ds) => if -(2 ^ 63) ≤ i ∧ i < 2 ^ 63 then (match seqIndex? i ds.length with
      | some j => match ds[j]? with
        | some d => .ok (.im d) (ce.set n (.lst (ds.eraseIdx j)))
        | none => .stuck
      | none => .stuck) else .stuck
    | _ => .stuck
  | _, _ => .stuck
section
variable {X : Cx} {Z : Zy} {W : WX}
theorem cell_rd {A F ce H n x ds} (so : SO Z.toZx A F ce H) (r : VRep Z A F (.cell n) x) (hk : ce[n]? = some (.lst ds)) : ∃ l vs, A[n]? = some l ∧ x = .ref l ∧ F l = none ∧ H l = some (.lst vs) ∧ Reps Z.toZx F ds vs := by
  obtain ⟨a, h1, rfl⟩ := r
  obtain ⟨h0, vs, h2, h3⟩ := so.ok n a _ h1 hk
  exact ⟨a, vs, h1, rfl, h0, h2, h3⟩
theorem fin_write {A F ce H n l ds vs d x σ Q} (so : SO Z.toZx A F ce H) (hA : A[n]? = some l) (hF : F l = none) (r : Reps Z.toZx F ds vs) (rd : Rep Z.toZx F d x) (p : PostE Z A F W σ Q (.ok (.im d) (ce.set n (.lst ds)))) : Q x (upd H l (.lst vs)) :=
  p A F _ _ (List.prefix_refl _) (Same.refl _) (so.write hA hF ⟨hF, vs, upd_same, r⟩) rd
theorem okm_append (hK : X.K = Z.K) : OkM Z W X.K "list" tyL kAppend rAppend := by
  refine ⟨tyL_ok hK, fun A F sl ce v x vs xs H σ Q so hs rv rs p => ?_⟩
  unfold kAppend at p
  split at p
  · split at p
    · rename_i n d ds hk
      split at p
      · rename_i hl
        obtain ⟨l, ws, hA, rfl, hF, h2, h3⟩ := cell_rd so rv hk
        obtain ⟨y, rfl, ry⟩ := vreps1 rs
        exact ⟨l, ws, y, rfl, rfl, h2, by rw [sizeLine_eq, ← h3.length]; exact hl, fin_write so hA hF (h3.append (reps_cons ry reps_nil)) repN p⟩
      · exact p.elim
    · exact p.elim
  · exact p.elim
theorem okm_popAt (hK : X.K = Z.K) : OkM Z W X.K "list" tyL kPopAt rPopAt := by
  refine ⟨tyL_ok hK, fun A F sl ce v x vs xs H σ Q so hs rv rs p => ?_⟩
  unfold kPopAt at p
  split at p
  · split at p
    · rename_i n i _ ds hk
      split at p
      · rename_i hb
        split at p
        · rename_i j hj
          split at p
          · rename_i d hd
            obtain ⟨l, ws, hA, rfl, hF, h2, h3⟩ := cell_rd so rv hk
            obtain ⟨y, rfl, ry⟩ := vreps1 rs
            obtain ⟨y, hy, rd⟩ := h3.get' hd
            rw [rep_int ry]
            exact ⟨l, ws, i, j, y, rfl, rfl, h2, hb.1, hb.2, by rw [← h3.length]; exact hj, hy, fin_write so hA hF (h3.eraseIdx j) rd p⟩
          · exact p.elim
        · exact p.elim
      · exact p.elim
    · exact p.elim
  · exact p.elim
theorem de_append {o e : Expr} {f g : DE} {apos cpos : Pos} (hK : X.K = Z.K) (ho : PE X o (tE Z W f)) (ha : PE X e (tE Z W g))
    (hb : attributeBase o "append" X.env (eval o X.env) = eval o X.env := by rfl) (hl : (apos.endLine == cpos.line) = true := by rfl) (hs : starEach [e] X.env = (false, eval e X.env) :: starEach [] X.env := by rfl) (hfew : ((backTo cpos (starEach [e] X.env)).all (fun x => !x.1) && (backToKw cpos (keywordEach [] X.env)).all (fun x => x.1.isSome)
      && decide ([e].length + ([] : List Keyword).length + (if ([] : List Keyword).isEmpty then 0 else 1) < 30)) = true := by rfl) :
    PE X (.Call (.Attribute o "append" apos) [e] [] cpos) (tE Z W (eMth tyL kAppend f [g])) :=
  de_bm PySem.F.plainAttrs_list PySem.F.slot_list_append PySem.F.type_list_append mt_append (okm_append hK) ho (da_cons ha da_nil hs) hb hl hs rfl hfew
theorem de_popAt {o e : Expr} {f g : DE} {apos cpos : Pos} (hK : X.K = Z.K) (ho : PE X o (tE Z W f)) (ha : PE X e (tE Z W g))
    (hb : attributeBase o "pop" X.env (eval o X.env) = eval o X.env := by rfl) (hl : (apos.endLine == cpos.line) = true := by rfl) (hs : starEach [e] X.env = (false, eval e X.env) :: starEach [] X.env := by rfl) (hfew : ((backTo cpos (starEach [e] X.env)).all (fun x => !x.1) && (backToKw cpos (keywordEach [] X.env)).all (fun x => x.1.isSome)
      && decide ([e].length + ([] : List Keyword).length + (if ([] : List Keyword).isEmpty then 0 else 1) < 30)) = true := by rfl) :
    PE X (.Call (.Attribute o "pop" apos) [e] [] cpos) (tE Z W (eMth tyL kPopAt f [g])) :=
  de_bm PySem.F.plainAttrs_list PySem.F.slot_list_pop PySem.F.type_list_pop mt_popAt (okm_popAt hK) ho (da_cons ha da_nil hs) hb hl hs rfl hfew
end
end ZZ
set_option Elab.async false
set_option linter.all false
set_option maxRecDepth 100000
namespace ZZ
open PySem PySem.Spec L2
inductive Out where
  | nx (sl : Sl) (ce : List Cell) | rt (v : Val) (ce : List Cell) | bk (sl : Sl) (ce : List Cell) | ct (sl : Sl) (ce : List Cell)
  | exc (c : Nat) (ds : List D) (sl : Sl) (ce : List Cell) | stuck
abbrev DSt := Sl → List Cell → Out
def PostS (Z : Zy) (A : List Addr) (F : Hp) (W : WX) (D : Ends) : Out → Prop
  | .nx sl ce => ∀ A' F' H' σ', A <+: A' → Same F F' → SO Z.toZx A' F' ce H' → SL Z A' F' sl σ' → D.nx σ' H'
  | .bk sl ce => ∀ A' F' H' σ', A <+: A' → Same F F' → SO Z.toZx A' F' ce H' → SL Z A' F' sl σ' → D.bk σ' H'
  | .ct sl ce => ∀ A' F' H' σ', A <+: A' → Same F F' → SO Z.toZx A' F' ce H' → SL Z A' F' sl σ' → D.ct σ' H'
  | .rt v ce => ∀ A' F' H' x, A <+: A' → Same F F' → SO Z.toZx A' F' ce H' → VRep Z A' F' v x → D.rt x H'
  | .exc c ds sl ce => ∀ A' F' H' σ' dx, A <+: A' → Same F F' → SO Z.toZx A' F' ce H' → SL Z A' F' sl σ' → ExcOk Z.toZx F' c ds dx → W (.ref (Z.cl c)) dx σ' H'
  | .stuck => False
def tS (Z : Zy) (W : WX) (f : DSt) : TS := fun D σ H => ∃ A F sl ce, SO Z.toZx A F ce H ∧ SL Z A F sl σ ∧ PostS Z A F W D (f sl ce)
def sSeq (f g : DSt) : DSt := fun sl ce => match f sl ce with
  | .nx sl' ce' => g sl' ce'
  | o => o
def sNil : DSt := fun sl ce => .nx sl ce
def sExp (f : DE) (k : Val → DSt) : DSt := fun sl ce => match f sl ce with
  | .ok v ce' => k v sl ce'
  | .exc c ds ce' => .exc c ds sl ce'
  | .stuck => .stuck
def sSet (i : Nat) (f : DE) : DSt := sExp f fun v sl ce => .nx (sl.set i (some v)) ce
def sRet (f : DE) : DSt := sExp f fun v _ ce => .rt v ce
def sDrop (f : DE) : DSt := sExp f fun _ sl ce => .nx sl ce
def sStuck : DSt := fun _ _ => .stuck
def sIf (c : DE) (f g : DSt) : DSt := sExp c fun v => match v with
  | .im (.bl b) => if b then f else g
  | _ => sStuck
/-- a ghost step: the cell at slot i is settled -/
def frz (i : Nat) (f : DSt) : DSt := fun sl ce => match sl[i]? with
  | some (some (.cell k)) => match ce[k]? with
    | some (.lst ds) => f (sl.set i (some (.im (.lst ds)))) (ce.set k .dead)
    | some (.dct ks vs) => f (sl.set i (some (.im (.dct ks vs)))) (ce.set k .dead)
    | _ => .stuck
  | _ => .stuck
section
variable {Z : Zy} {A A' : List Addr} {F F' H : Hp} {ce : List Cell} {sl : Sl} {σ : L2.St} {W : WX} {Q Q' : VK} {D D' : Ends}
theorem PostS.mono {r : Out} (p : A <+: A') (e : Same F F') (h : PostS Z A F W D r) : PostS Z A' F' W D r := by
  cases r with
  | stuck => exact h
  | exc c ds sl ce => exact fun A2 F2 H2 x dx p2 e2 => h A2 F2 H2 x dx (p.trans p2) (e.trans e2)
  | nx sl ce => exact fun A2 F2 H2 x p2 e2 => h A2 F2 H2 x (p.trans p2) (e.trans e2)
  | rt sl ce => exact fun A2 F2 H2 x p2 e2 => h A2 F2 H2 x (p.trans p2) (e.trans e2)
  | bk sl ce => exact fun A2 F2 H2 x p2 e2 => h A2 F2 H2 x (p.trans p2) (e.trans e2)
  | ct sl ce => exact fun A2 F2 H2 x p2 e2 => h A2 F2 H2 x (p.trans p2) (e.trans e2)
theorem PostS.imp {r : Out} (h1 : ∀ σ H, D.nx σ H → D'.nx σ H) (h2 : ∀ x H, D.rt x H → D'.rt x H) (h3 : ∀ σ H, D.bk σ H → D'.bk σ H) (h4 : ∀ σ H, D.ct σ H → D'.ct σ H) (h : PostS Z A F W D r) : PostS Z A F W D' r := by
  cases r with
  | nx sl ce => exact fun A2 F2 H2 x p2 e2 s l => h1 _ _ (h A2 F2 H2 x p2 e2 s l)
  | rt v ce => exact fun A2 F2 H2 x p2 e2 s l => h2 _ _ (h A2 F2 H2 x p2 e2 s l)
  | bk sl ce => exact fun A2 F2 H2 x p2 e2 s l => h3 _ _ (h A2 F2 H2 x p2 e2 s l)
  | ct sl ce => exact fun A2 F2 H2 x p2 e2 s l => h4 _ _ (h A2 F2 H2 x p2 e2 s l)
  | exc c ds sl ce => exact h
  | stuck => exact h
theorem PostS.exp {f : DE} {k : Val → DSt} (so : SO Z.toZx A F ce H) (hs : SL Z A F sl σ) (h : PostS Z A F W D (sExp f k sl ce)) :
    PostE Z A F W σ (fun x H1 => ∃ A1 F1 ce1 v, A <+: A1 ∧ Same F F1 ∧ SO Z.toZx A1 F1 ce1 H1 ∧ VRep Z A1 F1 v x ∧ PostS Z A1 F1 W D (k v sl ce1)) (f sl ce) := by
  unfold sExp at h
  cases e : f sl ce with
  | ok v ce1 =>
    rw [e] at h
    exact fun A1 F1 H1 x p1 e1 s1 r1 => ⟨A1, F1, ce1, v, p1, e1, s1, r1, h.mono p1 e1⟩
  | exc c ds ce1 =>
    rw [e] at h
    exact fun A1 F1 H1 dx p1 e1 s1 x1 => h A1 F1 H1 σ dx p1 e1 s1 (hs.mono p1 e1) x1
  | stuck =>
    rw [e] at h
    exact h.elim
theorem tS1 {f : DE} {k : Val → DSt} (h : tS Z W (sExp f k) D σ H) :
    tE Z W f σ H fun x H1 => ∃ A F sl ce v, SO Z.toZx A F ce H1 ∧ SL Z A F sl σ ∧ VRep Z A F v x ∧ PostS Z A F W D (k v sl ce) := by
  obtain ⟨A, F, sl, ce, so, hs, p⟩ := h
  exact ⟨A, F, sl, ce, so, hs, (PostS.exp so hs p).imp fun x H1 ⟨A1, F1, ce1, v, p1, e1, s1, r1, q1⟩ => ⟨A1, F1, sl, ce1, v, s1, hs.mono p1 e1, r1, q1⟩⟩
theorem nxS (so : SO Z.toZx A F ce H) (hs : SL Z A F sl σ) (p : PostS Z A F W D (.nx sl ce)) : D.nx σ H := p A F H σ (List.prefix_refl _) (Same.refl _) so hs
end
section
variable {X : Cx} {Z : Zy} {W : WX} {st : Stmt} {sts : List Stmt} {f g : DSt} {e : Expr} {fe : DE} {pos : Pos}
theorem ds_nil : PSs X [] (tS Z W sNil) := pss_nil.weak fun D σ H ⟨A, F, sl, ce, so, hs, p⟩ => nxS so hs p
theorem ds_cons (h1 : PS X st (tS Z W f)) (h2 : PSs X sts (tS Z W g)) : PSs X (st :: sts) (tS Z W (sSeq f g)) := (pss_cons h1 h2).weak fun D σ H ⟨A, F, sl, ce, so, hs, p⟩ => by
  refine ⟨A, F, sl, ce, so, hs, ?_⟩
  unfold sSeq at p
  cases e : f sl ce with
  | nx sl1 ce1 =>
    rw [e] at p
    exact fun A1 F1 H1 σ1 p1 e1 s1 l1 => ⟨A1, F1, sl1, ce1, s1, l1, p.mono p1 e1⟩
  | rt v ce => rw [e] at p; exact p
  | bk v ce => rw [e] at p; exact p
  | ct v ce => rw [e] at p; exact p
  | exc c ds sl ce => rw [e] at p; exact p
  | stuck => rw [e] at p; exact p
theorem ds_one (h1 : PS X st (tS Z W f)) : PSs X [st] (tS Z W f) := pss_one h1
theorem ds_set {i : Nat} {x : Str} {pos' : Pos} (hN : X.N.Nodup) (he : PE X e (tE Z W fe)) (hi : X.N[i]? = some x := by rfl) (hx : Loc X.env.scope x := by first | exact Or.inl rfl | exact Or.inr rfl) (hs : swapsWith e (some (.Name x pos')) pos.line X.env = pure false := by rfl)
    (hf : X.fn x = true ∨ X.env.scope.names.lookup x = some .local := by first | exact .inl rfl | exact .inr rfl) : PS X (.Assign [.Name x pos'] e pos) (tS Z W (sSet i fe)) :=
  (ps_set hN hi hx he hs hf).weak fun D σ H h => tE_imp (fun x H1 ⟨A, F, sl, ce, v, so, hs, r, p⟩ => nxS so (hs.set r) p) (tS1 h)
theorem ds_ret (he : PE X e (tE Z W fe)) : PS X (.Return (some e) pos) (tS Z W (sRet fe)) :=
  (ps_ret he).weak fun D σ H h => tE_imp (fun x H1 ⟨A, F, sl, ce, v, so, hs, r, p⟩ => p A F H1 x (List.prefix_refl _) (Same.refl _) so r) (tS1 h)
theorem ds_expr (he : PE X e (tE Z W fe)) (hs : swapsWith e none pos.line X.env = pure false := by rfl) : PS X (.Expr e pos) (tS Z W (sDrop fe)) :=
  (ps_expr he hs).weak fun D σ H h => tE_imp (fun x H1 ⟨A, F, sl, ce, v, so, hs, r, p⟩ => nxS so hs p) (tS1 h)
theorem ds_if {c : Expr} {a b : List Stmt} (hc : PT X c (tT Z W fe)) (ha : PSs X a (tS Z W f)) (hb : PSs X b (tS Z W g)) : PS X (.If c a b pos) (tS Z W (sIf fe f g)) :=
  (ps_if hc ha hb).weak fun D σ H h => tE_imp (fun x H1 ⟨A, F, sl, ce, v, so, hs, r, p⟩ => by
    split at p
    · rename_i b
      refine ⟨b, rep_bl r, ?_⟩
      cases b with
      | true => exact iteT ⟨A, F, sl, ce, so, hs, p⟩
      | false => exact iteF ⟨A, F, sl, ce, so, hs, p⟩
    · exact p.elim) (tS1 h)
theorem dss_never : PSs X sts (tS Z W sStuck) := pss_never.weak fun D σ H ⟨A, F, sl, ce, so, hs, p⟩ => p
theorem tS_frz {i : Nat} {D σ H} (h : tS Z W (frz i f) D σ H) : tS Z W f D σ H := by
  obtain ⟨A, F, sl, ce, so, hs, p⟩ := h
  unfold frz at p
  split at p
  · rename_i k e1
    split at p
    · rename_i ds e2
      obtain ⟨x, h1, a, hA, rfl⟩ := hs.is i _ e1
      obtain ⟨hF, vs, hH, r⟩ := so.ok k a _ hA e2
      have up := same_up (o := .lst vs) hF
      have hs2 : SL Z A (upd F a (.lst vs)) (sl.set i (some (.im (.lst ds)))) σ := by
        have q := (hs.mono (List.prefix_refl _) up).set (i := i) (v := .im (.lst ds)) (x := .ref a) (by unfold VRep Rep; exact ⟨a, vs, rfl, upd_same, r.mono up⟩)
        have e3 : σ.set i (some (.ref a)) = σ := List.ext_getElem? fun j => by
          by_cases hj : i = j
          · subst hj
            rw [List.getElem?_set_self (List.getElem?_eq_some_iff.mp h1).1, h1]
          · rw [List.getElem?_set_ne hj]
        rw [e3] at q
        exact q
      exact ⟨A, upd F a (.lst vs), _, _, so.freeze hA hF hH, hs2, p.mono (List.prefix_refl _) up⟩
    · rename_i ks vs e2
      obtain ⟨x, h1, a, hA, rfl⟩ := hs.is i _ e1
      obtain ⟨hF, o, kvs, vvs, hH, sh, r1, r2⟩ := so.ok k a _ hA e2
      have up := same_up (o := o) hF
      have hs2 : SL Z A (upd F a o) (sl.set i (some (.im (.dct ks vs)))) σ := by
        have q := (hs.mono (List.prefix_refl _) up).set (i := i) (v := .im (.dct ks vs)) (x := .ref a) (by unfold VRep Rep; exact ⟨a, o, kvs, vvs, rfl, upd_same, sh, r1.mono up, r2.mono up⟩)
        have e3 : σ.set i (some (.ref a)) = σ := List.ext_getElem? fun j => by
          by_cases hj : i = j
          · subst hj
            rw [List.getElem?_set_self (List.getElem?_eq_some_iff.mp h1).1, h1]
          · rw [List.getElem?_set_ne hj]
        rw [e3] at q
        exact q
      exact ⟨A, upd F a o, _, _, so.freeze hA hF hH, hs2, p.mono (List.prefix_refl _) up⟩
    · exact p.elim
  · exact p.elim
theorem ds_frz {i : Nat} (h : PS X st (tS Z W f)) : PS X st (tS Z W (frz i f)) := h.weak fun D σ H q => tS_frz q
end
abbrev GD : Type := D → Sl → Option Sl
def gN (i : Nat) : GD := fun d sl => some (sl.set i (some (.im d)))
def gL : List GD → List D → Sl → Option Sl
  | [], [], sl => some sl
  | g :: gs, d :: ds, sl => (g d sl).bind fun sl' => gL gs ds sl'
  | _, _, _ => none
def gT (gs : List GD) : GD := fun d sl => match d with
  | .tup ds => gL gs ds sl
  | _ => none
/-- the slots but those at ix are as they were -/
def Agree (ix : List Nat) (σ σ' : L2.St) : Prop := σ'.length = σ.length ∧ ∀ j : Nat, j ∉ ix → σ'[j]? = σ[j]?
def tG (Z : Zy) (ix : List Nat) (g : GD) : TG := fun v σ H Q => ∃ A F sl ce d, SO Z.toZx A F ce H ∧ SL Z A F sl σ ∧ Rep Z.toZx F d v ∧ ∃ sl', g d sl = some sl' ∧ ∀ σ', SL Z A F sl' σ' → Agree ix σ σ' → Q σ' H
def tGs (Z : Zy) (ix : List Nat) (gs : List GD) : TGs := fun vs σ H Q => ∃ A F sl ce ds, SO Z.toZx A F ce H ∧ SL Z A F sl σ ∧ Reps Z.toZx F ds vs ∧ ∃ sl', gL gs ds sl = some sl' ∧ ∀ σ', SL Z A F sl' σ' → Agree ix σ σ' → Q σ' H
section
variable {X : Cx} {Z : Zy} {W : WX} {e : Expr} {es : List Expr} {g : GD} {gs : List GD} {ix ix' : List Nat} {pos : Pos}
theorem pg_weak {t t' : TG} (h : PG X e t) (hw : ∀ v σ H Q, t' v σ H Q → t v σ H Q) : PG X e t' := ⟨fun pins s σ H v u Q I r q => h.run pins s σ H v u Q I r (hw _ _ _ _ q)⟩
theorem pgs_weak {t t' : TGs} (h : PGs X es t) (hw : ∀ v σ H Q, t' v σ H Q → t v σ H Q) : PGs X es t' := ⟨fun pins s σ H v u Q I r q => h.run pins s σ H v u Q I r (hw _ _ _ _ q)⟩
theorem dg_name {i : Nat} {x : Str} (hN : X.N.Nodup) (hi : X.N[i]? = some x := by rfl) (hx : Loc X.env.scope x := by first | exact Or.inl rfl | exact Or.inr rfl)
    (hf : X.fn x = true ∨ X.env.scope.names.lookup x = some .local := by first | exact .inl rfl | exact .inr rfl) : PG X (.Name x pos) (tG Z [i] (gN i)) :=
  pg_weak (pg_name hN hi hx hf) fun v σ H Q ⟨A, F, sl, ce, d, so, hs, r, sl', e, q⟩ => by
    cases e
    refine q _ (hs.set r) ⟨by simp, fun j hj => ?_⟩
    have : i ≠ j := fun z => hj (by simp [z])
    rw [List.getElem?_set_ne this]
theorem dgs_nil : PGs X [] (tGs Z [] []) := pgs_weak pgs_nil fun v σ H Q ⟨A, F, sl, ce, ds, so, hs, r, sl', e, q⟩ => by
  cases ds with
  | nil =>
    cases e
    exact ⟨reps_nil_inv r, q σ hs ⟨rfl, fun _ _ => rfl⟩⟩
  | cons d ds => cases e
theorem dgs_cons (h1 : PG X e (tG Z ix g)) (h2 : PGs X es (tGs Z ix' gs)) (hs : (assignEach (e :: es) X.env).map (·.2) = assign e X.env :: (assignEach es X.env).map (·.2) := by rfl) : PGs X (e :: es) (tGs Z (ix ++ ix') (g :: gs)) := pgs_weak (pgs_cons h1 h2 hs) fun vs σ H Q ⟨A, F, sl, ce, ds, so, hs, r, sl', e, q⟩ => by
  cases ds with
  | nil => cases e
  | cons d ds =>
    obtain ⟨v, r', rfl, h1, h2⟩ := reps_cons_inv r
    refine ⟨v, r', rfl, A, F, sl, ce, d, so, hs, h1, ?_⟩
    unfold gL at e
    cases e1 : g d sl with
    | none => rw [e1] at e; cases e
    | some sl1 =>
      rw [e1] at e
      exact ⟨sl1, rfl, fun σ1 l1 a1 => ⟨A, F, sl1, ce, ds, so, l1, h2, sl', e, fun σ2 l2 a2 => q σ2 l2 ⟨a2.1.trans a1.1, fun j hj => (a2.2 j fun z => hj (by simp [z])).trans (a1.2 j fun z => hj (by simp [z]))⟩⟩⟩
theorem gL_len : ∀ {gs : List GD} {ds : List D} {sl sl' : Sl}, gL gs ds sl = some sl' → ds.length = gs.length
  | [], [], _, _, _ => rfl
  | [], _ :: _, _, _, h => by cases h
  | _ :: _, [], _, _, h => by cases h
  | g :: gs, d :: ds, sl, sl', h => by
    unfold gL at h
    cases e1 : g d sl with
    | none => rw [e1] at h; cases h
    | some sl1 => rw [e1] at h; simp [gL_len (show gL gs ds sl1 = some sl' from h)]
theorem dg_tup {k : Nat} (hK : X.K = Z.K) (hc : X.calm = true) (h : PGs X es (tGs Z ix gs)) (hl : (assignEach es X.env).length = gs.length := by rfl) (hst : (assignEach es X.env).findIdx? (·.1) = none := by rfl) : PG X (.Tuple es k pos) (tG Z ix (gT gs)) := pg_weak (pg_tup hc h hl hst) fun v σ H Q ⟨A, F, sl, ce, d, so, hs, r, sl', e, q⟩ => by
  unfold gT at e
  split at e
  · rename_i ds
    unfold Rep at r
    obtain ⟨a, vs, rfl, h1, h2⟩ := r
    exact ⟨a, vs, rfl, by rw [hK]; exact same_seqT so.sub h1, by rw [← h2.length, gL_len e], A, F, sl, ce, ds, so, hs, h2, sl', e, q⟩
  · cases e
/-- a, b = e -/
def sAsg (g : GD) (f : DE) : DSt := sExp f fun v sl ce => match v with
  | .im d => match g d sl with
    | some sl' => .nx sl' ce
    | none => .stuck
  | _ => .stuck
theorem ds_asg {tg : Expr} {fe : DE} (he : PE X e (tE Z W fe)) (hg : PG X tg (tG Z ix g)) (hs : swapsWithSole [tg] e pos.line X.env = pure false := by rfl) (hw : swappedStores [tg] e X.env = pure none := by rfl) (h1 : (assignEach [tg] X.env).map (·.2) = [assign tg X.env] := by rfl) : PS X (.Assign [tg] e pos) (tS Z W (sAsg g fe)) :=
  (ps_asg he hg hs hw h1).weak fun D σ H h => tE_imp (fun x H1 ⟨A, F, sl, ce, v, so, hs, r, p⟩ => by
    split at p
    · rename_i d
      split at p
      · rename_i sl' e1
        exact ⟨A, F, sl, ce, d, so, hs, r, sl', e1, fun σ' l' _ => nxS so l' p⟩
      · exact p.elim
    · exact p.elim) (tS1 h)
end
inductive IOut where
  | ok (ds : List D) (ce : List Cell) | exc (c : Nat) (ds : List D) (ce : List Cell) | stuck
abbrev DI := Sl → List Cell → IOut
def JOk (Z : Zx) (F : Hp) (J : It) (ds : List D) : Prop := ∀ F1 H i, Same F F1 → Same F1 H → (i = ds.length → J.stop i H) ∧
  ∀ d, ds[i]? = some d → J.go i H ∧ ∀ x H', J.yld i H x H' → (Rep Z F1 d x ∧ H' = H) ∨ ∃ p o, H p = none ∧ H' = upd H p o ∧ Rep Z (upd F1 p o) d x
def tI (Z : Zy) (W : WX) (f : DI) : TI := fun σ H R => ∃ A F sl ce, SO Z.toZx A F ce H ∧ SL Z A F sl σ ∧ match f sl ce with
  | .ok ds ce' => ∀ A' F' H' J, A <+: A' → Same F F' → SO Z.toZx A' F' ce' H' → JOk Z.toZx F' J ds → R J H'
  | .exc c ds ce' => ∀ A' F' H' dx, A <+: A' → Same F F' → SO Z.toZx A' F' ce' H' → ExcOk Z.toZx F' c ds dx → W (.ref (Z.cl c)) dx σ H'
  | .stuck => False
def iExp (f : DE) (k : Val → Option (List D)) : DI := fun sl ce => match f sl ce with
  | .ok v ce' => match k v with
    | some ds => .ok ds ce'
    | none => .stuck
  | .exc c ds ce' => .exc c ds ce'
  | .stuck => .stuck
def itL : Val → Option (List D)
  | .im (.lst ds) => some ds
  | .im (.wl ds) => some ds
  | _ => none
def itT : Val → Option (List D)
  | .im (.tup ds) => some ds
  | _ => none
def signs (z : Str) : List D := z.cps.toList.map fun c => .str ⟨#[c]⟩
def itS : Val → Option (List D)
  | .im (.str z) => some (signs z)
  | _ => none
section
variable {X : Cx} {Z : Zy} {W : WX} {tg e : Expr} {f : DE} {k : Val → Option (List D)} {pos : Pos}
theorem tI1 {σ H R} (h : tI Z W (iExp f k) σ H R) : tE Z W f σ H fun x H1 => ∃ A F ce v ds, SO Z.toZx A F ce H1 ∧ VRep Z A F v x ∧ k v = some ds ∧ ∀ J, JOk Z.toZx F J ds → R J H1 := by
  obtain ⟨A, F, sl, ce, so, hs, p⟩ := h
  refine ⟨A, F, sl, ce, so, hs, ?_⟩
  unfold iExp at p
  cases e : f sl ce with
  | ok v ce1 =>
    simp only [e] at p
    cases e2 : k v with
    | none => simp only [e2] at p
    | some ds =>
      simp only [e2] at p
      exact fun A1 F1 H1 x p1 e1 s1 r1 => ⟨A1, F1, ce1, v, ds, s1, r1, e2, fun J hJ => p A1 F1 H1 J p1 e1 s1 hJ⟩
  | exc c ds ce1 => simp only [e] at p; exact p
  | stuck => simp only [e] at p
theorem _root_.L2.PI.weak {t t' : TI} (h : PI X tg e t) (hw : ∀ σ H R, t' σ H R → t σ H R) : PI X tg e t' := ⟨fun pins s σ H R I q => h.run pins s σ H R I (hw _ _ _ q)⟩
theorem di_list (hK : X.K = Z.K) (he : PE X e (tE Z W f)) : PI X tg e (tI Z W (iExp f itL)) := (pi_list he).weak fun σ H R h => tE_imp (fun x H1 ⟨A, F, ce, v, ds, so, r, e, q⟩ => by
  unfold itL at e
  have key : ∀ a vs, SqL Z.K F a vs → Reps Z.toZx F ds vs → x = .ref a → ∃ a, x = .ref a ∧ (∃ xs, SqL X.K H1 a xs) ∧ R (Itl X.K a) H1 := fun a vs hl rr ex => by
    rw [hK]
    refine ⟨a, ex, ⟨vs, so.sub.seq hl⟩, q _ fun F1 H i e1 e2 => ?_⟩
    have hl' := e2.seq (e1.seq hl)
    refine ⟨fun h => ⟨vs, hl', by rw [h, rr.length]; exact Nat.le_refl _⟩, fun d hd => ?_⟩
    obtain ⟨v, hv, rv⟩ := rr.get' hd
    refine ⟨⟨vs, v, hl', hv⟩, fun x H' ⟨eH, hx⟩ => .inl ⟨?_, eH⟩⟩
    have := hx vs hl'
    rw [hv] at this
    cases this
    exact rv.mono e1
  split at e
  · cases e
    unfold VRep Rep at r
    obtain ⟨a, vs, ex, h1, h2⟩ := r
    exact key a vs (SqL.of h1) h2 ex
  · cases e
    unfold VRep Rep at r
    obtain ⟨a, vs, ex, h1, h2⟩ := r
    exact key a vs h1 h2 ex
  · cases e) (tI1 h)
theorem di_tup (hK : X.K = Z.K) (he : PE X e (tE Z W f)) : PI X tg e (tI Z W (iExp f itT)) := (pi_tup he).weak fun σ H R h => tE_imp (fun x H1 ⟨A, F, ce, v, ds, so, r, e, q⟩ => by
  unfold itT at e
  split at e
  · cases e
    unfold VRep Rep at r
    obtain ⟨a, vs, ex, hl, rr⟩ := r
    rw [hK]
    refine ⟨a, ex, ⟨vs, same_seqT so.sub hl⟩, q _ fun F1 H i e1 e2 => ?_⟩
    have hl' := same_seqT e2 (same_seqT e1 hl)
    refine ⟨fun h => ⟨vs, hl', by rw [h, rr.length]; exact Nat.le_refl _⟩, fun d hd => ?_⟩
    obtain ⟨v, hv, rv⟩ := rr.get' hd
    refine ⟨⟨vs, v, hl', hv⟩, fun x H' ⟨eH, hx⟩ => .inl ⟨?_, eH⟩⟩
    have := hx vs hl'
    rw [hv] at this
    cases this
    exact rv.mono e1
  · cases e) (tI1 h)
theorem jok_s {F : Hp} (z : Str) : JOk Z.toZx F (Its z) (signs z) := by
  intro F1 H i e1 e2
  have hsz : (signs z).length = z.cps.size := by simp [signs]
  refine ⟨fun h => by show z.cps.size ≤ i; omega, fun d hd => ?_⟩
  have hi : i < z.cps.size := by rw [← hsz]; exact (List.getElem?_eq_some_iff.mp hd).1
  refine ⟨hi, fun x H' ⟨eH, c, hc, ex⟩ => .inl ⟨?_, eH⟩⟩
  have : d = .str ⟨#[c]⟩ := by
    unfold signs at hd
    rw [List.getElem?_map, Array.getElem?_toList, hc] at hd
    cases hd
    rfl
  rw [this, ex]
  exact repS
theorem di_str (he : PE X e (tE Z W f)) : PI X tg e (tI Z W (iExp f itS)) := (pi_str he).weak fun σ H R h => tE_imp (fun x H1 ⟨A, F, ce, v, ds, so, r, e, q⟩ => by
  unfold itS at e
  split at e
  · rename_i z
    cases e
    exact ⟨z, rep_str r, q _ (jok_s z)⟩
  · cases e) (tI1 h)
end
def forD (g : GD) (body : DSt) : List D → DSt
  | [], sl, ce => .nx sl ce
  | d :: ds, sl, ce => match g d sl with
    | none => .stuck
    | some sl1 => match body sl1 ce with
      | .nx sl2 ce2 => forD g body ds sl2 ce2
      | .ct sl2 ce2 => forD g body ds sl2 ce2
      | .bk sl2 ce2 => .nx sl2 ce2
      | o => o
def sFor (fi : DI) (g : GD) (body : DSt) : DSt := fun sl ce => match fi sl ce with
  | .ok ds ce' => forD g body ds sl ce'
  | .exc c ds ce' => .exc c ds sl ce'
  | .stuck => .stuck
section
variable {X : Cx} {Z : Zy} {W : WX} {tg iter : Expr} {fi : DI} {ix : List Nat} {g : GD} {fb : DSt} {body : List Stmt} {pos : Pos}
theorem ds_for (hp : PassesOwn (model X.prog X.w) X.A X.env X.xe) (hi : PI X tg iter (tI Z W fi)) (hg : PG X tg (tG Z ix g)) (hb : PSs X body (tS Z W fb)) (hc : X.calm = true := by rfl)
    (hs : ∀ x, foldedSetIterable iter X.env x = pure x := by intro _; rfl) : PS X (.For tg iter body [] pos) (tS Z W (sFor fi g fb)) := by
  refine (ps_for hp hc hi hg hb hs).weak fun D σ H ⟨A, F, sl, ce, so, hs, p⟩ => ⟨A, F, sl, ce, so, hs, ?_⟩
  unfold sFor at p
  cases e : fi sl ce with
  | stuck => rw [e] at p; exact p.elim
  | exc c ds ce1 =>
    rw [e] at p
    exact fun A1 F1 H1 dx p1 e1 s1 x1 => p A1 F1 H1 σ dx p1 e1 s1 (hs.mono p1 e1) x1
  | ok ds ce1 =>
    rw [e] at p
    intro A1 F1 H1 J p1 e1 so1 hJ
    refine ⟨fun i m σ H => m = ds.length - i ∧ i ≤ ds.length ∧ ∃ A F sl ce, Same F1 F ∧ SO Z.toZx A F ce H ∧ SL Z A F sl σ ∧ PostS Z A F W D (forD g fb (ds.drop i) sl ce),
      ⟨ds.length, rfl, Nat.zero_le _, A1, F1, sl, ce1, Same.refl _, so1, hs.mono p1 e1, p.mono p1 e1⟩, ?_⟩
    rintro i m σ H ⟨rfl, hi, A, F, sl, ce, eF, so, hs, p⟩
    obtain ⟨j1, j2⟩ := hJ F H i eF so.sub
    by_cases hlt : i < ds.length
    · have hd : ds[i]? = some ds[i] := List.getElem?_eq_getElem hlt
      obtain ⟨go, yl⟩ := j2 _ hd
      refine .inr ⟨go, fun σ H => i + 1 ≤ ds.length ∧ ∃ A F sl ce, Same F1 F ∧ SO Z.toZx A F ce H ∧ SL Z A F sl σ ∧ PostS Z A F W D (forD g fb (ds.drop (i + 1)) sl ce), fun σ' H' q => ⟨ds.length - (i + 1), by omega, rfl, q⟩, fun x H' hy => ?_⟩
      rw [List.drop_eq_getElem_cons hlt] at p
      have fin : ∀ F2 H2, Same F F2 → SO Z.toZx A F2 ce H2 → Rep Z.toZx F2 ds[i] x → tG Z ix g x σ H2 fun σ2 H3 => tS Z W fb { D with nx := fun σ H => i + 1 ≤ ds.length ∧ ∃ A F sl ce, Same F1 F ∧ SO Z.toZx A F ce H ∧ SL Z A F sl σ ∧ PostS Z A F W D (forD g fb (ds.drop (i + 1)) sl ce), ct := fun σ H => i + 1 ≤ ds.length ∧ ∃ A F sl ce, Same F1 F ∧ SO Z.toZx A F ce H ∧ SL Z A F sl σ ∧ PostS Z A F W D (forD g fb (ds.drop (i + 1)) sl ce), bk := D.nx } σ2 H3 := by
        intro F2 H2 e2 so2 r2
        refine ⟨A, F2, sl, ce, ds[i], so2, hs.mono (List.prefix_refl _) e2, r2, ?_⟩
        unfold forD at p
        cases eg : g ds[i] sl with
        | none => rw [eg] at p; exact p.elim
        | some sl1 =>
          rw [eg] at p
          refine ⟨sl1, rfl, fun σ' hs' _ => ⟨A, F2, sl1, ce, so2, hs', ?_⟩⟩
          simp only at p
          cases eb : fb sl1 ce with
          | nx sl2 ce2 => rw [eb] at p; exact fun A3 F3 H3 σ3 p3 e3 so3 hs3 => ⟨hlt, A3, F3, sl2, ce2, (eF.trans e2).trans e3, so3, hs3, p.mono p3 (e2.trans e3)⟩
          | ct sl2 ce2 => rw [eb] at p; exact fun A3 F3 H3 σ3 p3 e3 so3 hs3 => ⟨hlt, A3, F3, sl2, ce2, (eF.trans e2).trans e3, so3, hs3, p.mono p3 (e2.trans e3)⟩
          | bk sl2 ce2 => rw [eb] at p; exact fun A3 F3 H3 σ3 p3 e3 so3 hs3 => p A3 F3 H3 σ3 p3 (e2.trans e3) so3 hs3
          | rt v ce2 => rw [eb] at p; exact fun A3 F3 H3 x3 p3 e3 so3 hs3 => p A3 F3 H3 x3 p3 (e2.trans e3) so3 hs3
          | exc c es sl2 ce2 => rw [eb] at p; exact fun A3 F3 H3 σ3 dx p3 e3 so3 hs3 => p A3 F3 H3 σ3 dx p3 (e2.trans e3) so3 hs3
          | stuck => rw [eb] at p; exact p.elim
      rcases yl x H' hy with ⟨rx, rfl⟩ | ⟨q, o, hq, rfl, rx⟩
      · exact fin F _ (Same.refl _) so rx
      · exact fin _ _ (same_up (so.fnone hq)) (so.new hq) rx
    · have ei : i = ds.length := by omega
      refine .inl ⟨j1 ei, ?_⟩
      rw [ei, List.drop_length] at p
      exact nxS so hs p
end
end ZZ
set_option Elab.async false
set_option linter.all false
set_option maxRecDepth 100000
namespace L2
open PySem PySem.Spec PyProof.Rows
end L2
namespace ZZ
open PySem PySem.Spec L2
def rangeD (lo c : Int) (n : Nat) : List D := (List.range n).map fun (i : Nat) => D.int (lo + (i : Int) * c)
def enumD (ds : List D) : List D := (List.range ds.length).filterMap fun (i : Nat) => ds[i]?.map fun d => D.tup [.int (i : Int), d]
def zipD (xs ys : List D) : List D := (List.zip xs ys).map fun p => D.tup [p.1, p.2]
/-- the walk of a call with arguments -/
def iArgs (fs : List DE) (k : List Val → Option (List D)) : DI := iExp (eArgs fs fun vs _ ce => match k vs with
  | some ds => .ok (.im (.lst ds)) ce
  | none => .stuck) itL
def isz (i : Int) : Bool := Nat.ble i.natAbs 4611686018427387903
theorem isz_of {i : Int} (h : -(2 ^ 62) < i ∧ i < 2 ^ 62) : isz i = true := by
  unfold isz
  rw [Nat.ble_eq]
  omega
def kRng1 : List Val → Option (List D)
  | [.im (.int j)] => if isz j then some (rangeD 0 1 j.toNat) else none
  | _ => none
def kEnum : List Val → Option (List D)
  | [.im (.lst ds)] => some (enumD ds)
  | [.im (.wl ds)] => some (enumD ds)
  | _ => none
def wlst : Val → Option (List D)
  | .im (.lst ds) => some ds
  | .im (.wl ds) => some ds
  | _ => none
def kZip : List Val → Option (List D)
  | [v, u] => match wlst v, wlst u with
    | some xs, some ys => some (zipD xs ys)
    | _, _ => none
  | _ => none
section
variable {X : Cx} {Z : Zy} {W : WX} {tg e : Expr} {fs : List DE} {k : List Val → Option (List D)} {pos : Pos}
/-- the arguments' end, without an object of its own -/
theorem tIN {σ H R} (h : tI Z W (iArgs fs k) σ H R) : tArgs Z W fs σ H fun xs H1 => ∃ A F ce vs ds, SO Z.toZx A F ce H1 ∧ VReps Z A F vs xs ∧ k vs = some ds ∧ ∀ J, JOk Z.toZx F J ds → R J H1 := by
  obtain ⟨A, F, sl, ce, so, hs, p⟩ := h
  unfold iArgs iExp at p
  have key : PostE Z A F W σ (fun _ _ => True) (eArgs fs (fun vs _ ce => match k vs with
      | some ds => .ok (.im (.lst ds)) ce
      | none => .stuck) sl ce) → True := fun _ => trivial
  -- the walk's wish as a wish on the arguments
  let kk : List Val → DE := fun vs _ ce => match k vs with
    | some ds => .ok (.im (.lst ds)) ce
    | none => .stuck
  have go : ∀ (fs : List DE) (kv : List Val → DE) (A : List Addr) (F H : Hp) (ce : List Cell) (pre : List Val), SO Z.toZx A F ce H → SL Z A F sl σ → (∀ vs, kv vs = kk (pre ++ vs)) →
      (match (match eArgs fs kv sl ce with
        | .ok v ce' => (match itL v with
          | some ds => IOut.ok ds ce'
          | none => IOut.stuck)
        | .exc c ds ce' => IOut.exc c ds ce'
        | .stuck => IOut.stuck) with
      | .ok ds ce' => ∀ A' F' H' J, A <+: A' → Same F F' → SO Z.toZx A' F' ce' H' → JOk Z.toZx F' J ds → R J H'
      | .exc c ds ce' => ∀ A' F' H' dx, A <+: A' → Same F F' → SO Z.toZx A' F' ce' H' → ExcOk Z.toZx F' c ds dx → W (.ref (Z.cl c)) dx σ H'
      | .stuck => False) →
      tArgs Z W fs σ H fun xs H1 => ∃ A1 F1 ce1 vs ds, A <+: A1 ∧ Same F F1 ∧ SO Z.toZx A1 F1 ce1 H1 ∧ VReps Z A1 F1 vs xs ∧ k (pre ++ vs) = some ds ∧ ∀ J, JOk Z.toZx F1 J ds → R J H1 := by
    intro fs
    induction fs with
    | nil =>
      intro kv A F H ce pre so hs hkv p
      unfold eArgs at p
      rw [hkv] at p
      simp only [kk] at p
      cases e : k (pre ++ []) with
      | none => simp only [e] at p
      | some ds =>
        simp only [e, itL] at p
        exact ⟨A, F, ce, [], ds, List.prefix_refl _, Same.refl _, so, rfl, e, fun J hJ => p A F H J (List.prefix_refl _) (Same.refl _) so hJ⟩
    | cons f fs ih =>
      intro kv A F H ce pre so hs hkv p
      unfold eArgs eBind at p
      refine ⟨A, F, sl, ce, so, hs, ?_⟩
      cases e : f sl ce with
      | stuck => simp only [e] at p
      | exc c ds ce1 => simp only [e] at p; exact p
      | ok v ce1 =>
        simp only [e] at p
        intro A1 F1 H1 x p1 e1 so1 r1
        refine tArgs_imp (fun xs H2 ⟨A2, F2, ce2, vs, ds, p2, e2, so2, r2, hk, q⟩ => ⟨A2, F2, ce2, v :: vs, ds, p1.trans p2, e1.trans e2, so2, ⟨x, xs, rfl, r1.mono p2 e2, r2⟩, by simpa using hk, q⟩)
          (ih (fun vs => kv (v :: vs)) A1 F1 H1 ce1 (pre ++ [v]) so1 (hs.mono p1 e1) (fun vs => by simp [hkv]) ?_)
        revert p
        cases eArgs fs (fun vs => kv (v :: vs)) sl ce1 with
        | stuck => exact id
        | exc c ds ce2 => exact fun p A' F' H' dx pp ee => p A' F' H' dx (p1.trans pp) (e1.trans ee)
        | ok u ce2 =>
          dsimp only
          cases itL u with
          | none => exact id
          | some ds => exact fun p A' F' H' J pp ee => p A' F' H' J (p1.trans pp) (e1.trans ee)
  exact tArgs_imp (fun xs H2 ⟨A2, F2, ce2, vs, ds, p2, e2, so2, r2, hk, q⟩ => ⟨A2, F2, ce2, vs, ds, so2, r2, by simpa using hk, q⟩) (go fs kk A F H ce [] so hs (fun vs => rfl) p)
theorem repIx {Z : Zx} {F : Hp} {i : Int} : Rep Z F (.int i) (.int i) := by unfold Rep; rfl
theorem isz_ok {i : Int} (h : isz i = true) : -(2 ^ 62) ≤ i ∧ i < 2 ^ 62 := by
  unfold isz at h
  rw [Nat.ble_eq] at h
  omega
theorem jok_r {Z : Zx} {F : Hp} (lo : Int) (n : Nat) : JOk Z F (Itr lo n) (rangeD lo 1 n) := by
  intro F1 H i e1 e2
  refine ⟨fun h => by show n ≤ i; rw [h]; simp [rangeD], fun d hd => ?_⟩
  have hi : i < n := by
    have := (List.getElem?_eq_some_iff.mp hd).1
    simpa [rangeD] using this
  refine ⟨hi, fun x H' ⟨eH, ex⟩ => .inl ⟨?_, eH⟩⟩
  have : d = .int (lo + (i : Int) * 1) := by
    unfold rangeD at hd
    rw [List.getElem?_map, List.getElem?_range hi] at hd
    cases hd
    rfl
  rw [this, ex, Int.mul_one]
  exact repIx
theorem di_range1 {a : Expr} {p : Pos} {f : DE} (hm : X.mg "range" = none) (ha : PA X [a] (tArgs Z W [f])) (hg : Gl X "range" := by rfl) (hs : starEach [a] X.env = [(false, eval a X.env)] := by rfl) : PI X tg (.Call (.Name "range" p) [a] [] pos) (tI Z W (iArgs [f] kRng1)) :=
  (pi_range1 hg hm ha hs).weak fun σ H R h => tArgs_imp (fun xs H1 ⟨A, F, ce, vs, ds, so, r, hk, q⟩ => by
    unfold kRng1 at hk
    split at hk
    · split at hk
      · rename_i j hj
        cases hk
        replace r := vreps1 r
        obtain ⟨x, rfl, r⟩ := r
        rw [rep_int r]
        exact ⟨j, rfl, (isz_ok hj).1, (isz_ok hj).2, q _ (jok_r 0 _)⟩
      · cases hk
    · cases hk) (tIN h)
theorem enum_get {ds : List D} {i : Nat} {d : D} (h : (enumD ds)[i]? = some d) : ∃ e, ds[i]? = some e ∧ d = .tup [.int (i : Int), e] := by
  have e : enumD ds = (List.range ds.length).map fun (i : Nat) => D.tup [.int (i : Int), (ds[i]?).getD .non] := by
    unfold enumD
    have : ∀ l : List Nat, (∀ i ∈ l, i < ds.length) → l.filterMap (fun (i : Nat) => ds[i]?.map fun d => D.tup [.int (i : Int), d]) = l.map fun (i : Nat) => D.tup [.int (i : Int), (ds[i]?).getD .non] := by
      intro l hl
      induction l with
      | nil => rfl
      | cons a l ih =>
        have ha : a < ds.length := hl a (by simp)
        rw [List.map_cons, ← ih fun i hi => hl i (by simp [hi])]
        simp [List.getElem?_eq_getElem ha]
    exact this _ fun i hi => by simpa using hi
  rw [e, List.getElem?_map] at h
  cases q : (List.range ds.length)[i]? with
  | none => rw [q] at h; cases h
  | some j =>
    rw [q] at h
    have hi : i < ds.length := by
      have := (List.getElem?_eq_some_iff.mp q).1
      simpa using this
    rw [List.getElem?_range hi] at q
    cases q
    cases h
    exact ⟨ds[i], List.getElem?_eq_getElem hi, by simp [List.getElem?_eq_getElem hi]⟩
theorem enum_len {ds : List D} : (enumD ds).length = ds.length := by
  unfold enumD
  have : ∀ l : List Nat, (∀ i ∈ l, i < ds.length) → (l.filterMap (fun (i : Nat) => ds[i]?.map fun d => D.tup [.int (i : Int), d])).length = l.length := by
    intro l hl
    induction l with
    | nil => rfl
    | cons a l ih =>
      have ha : a < ds.length := hl a (by simp)
      simp [List.getElem?_eq_getElem ha, ih fun i hi => hl i (by simp [hi])]
  rw [this _ fun i hi => by simpa using hi, List.length_range]
theorem rep_pair {Z : Zx} {F : Hp} {p : Addr} {d e : D} {x y : V} (hp : F p = none) (r1 : Rep Z F d x) (r2 : Rep Z F e y) : Rep Z (upd F p (.tup [x, y])) (.tup [d, e]) (.ref p) := by
  unfold Rep
  exact ⟨p, _, rfl, SqT.of upd_same, reps_cons (r1.mono (same_up hp)) (reps_cons (r2.mono (same_up hp)) reps_nil)⟩
theorem same_none {F H : Hp} (e : Same F H) {p : Addr} (h : H p = none) : F p = none := e.free h
theorem jok_e {Z : Zx} {F : Hp} {a : Addr} {vs : List V} {ds : List D} (hl : SqL Z.K F a vs) (rr : Reps Z F ds vs) : JOk Z F (Ite Z.K a) (enumD ds) := by
  intro F1 H i e1 e2
  have hl' := e2.seq (e1.seq hl)
  refine ⟨fun h => ⟨vs, hl', by rw [h, enum_len, rr.length]; exact Nat.le_refl _⟩, fun d hd => ?_⟩
  obtain ⟨e, he, rfl⟩ := enum_get hd
  obtain ⟨v, hv, rv⟩ := rr.get' he
  refine ⟨⟨vs, v, hl', hv⟩, fun x H' ⟨T, y, ex, hT, eH, hy⟩ => .inr ⟨T, _, hT, eH, ?_⟩⟩
  have := hy vs hl'
  rw [hv] at this
  cases this
  rw [ex]
  exact rep_pair (same_none e2 hT) repIx (rv.mono e1)
theorem wlst_rd {A F ce H} {v : Val} {x : V} {ds : List D} (so : SO Z.toZx A F ce H) (r : VRep Z A F v x) (e : wlst v = some ds) : ∃ a vs, x = .ref a ∧ SqL Z.K F a vs ∧ Reps Z.toZx F ds vs := by
  unfold wlst at e
  split at e
  · cases e
    unfold VRep Rep at r
    obtain ⟨a, vs, ex, h1, h2⟩ := r
    exact ⟨a, vs, ex, SqL.of h1, h2⟩
  · cases e
    unfold VRep Rep at r
    exact r
  · cases e
theorem jok_z {Z : Zx} {F : Hp} {a b : Addr} {vs ws : List V} {xs ys : List D} (ha : SqL Z.K F a vs) (hb : SqL Z.K F b ws) (ra : Reps Z F xs vs) (rb : Reps Z F ys ws) : JOk Z F (Itz Z.K a b) (zipD xs ys) := by
  intro F1 H i e1 e2
  have ha' := e2.seq (e1.seq ha)
  have hb' := e2.seq (e1.seq hb)
  have l1 := ra.length
  have l2 := rb.length
  refine ⟨fun h => ⟨vs, ws, ha', hb', ?_⟩, fun d hd => ?_⟩
  · unfold zipD at h
    simp only [List.length_map, List.length_zip] at h
    omega
  · unfold zipD at hd
    rw [List.getElem?_map] at hd
    cases q : (List.zip xs ys)[i]? with
    | none => rw [q] at hd; cases hd
    | some pr =>
      rw [q] at hd
      cases hd
      have hx : xs[i]? = some pr.1 ∧ ys[i]? = some pr.2 := by
        rw [List.getElem?_zip_eq_some] at q
        exact q
      obtain ⟨v, hv, rv⟩ := ra.get' hx.1
      obtain ⟨w, hw, rw'⟩ := rb.get' hx.2
      refine ⟨⟨vs, ws, v, w, ha', hb', hv, hw⟩, fun x H' ⟨T, y, z, ex, hT, eH, hy, hz⟩ => .inr ⟨T, _, hT, eH, ?_⟩⟩
      have e3 := hy vs ha'
      have e4 := hz ws hb'
      rw [hv] at e3
      rw [hw] at e4
      cases e3
      cases e4
      rw [ex]
      exact rep_pair (same_none e2 hT) (rv.mono e1) (rw'.mono e1)
theorem di_zip {e e2 : Expr} {p tpos : Pos} {elts : List Expr} {kk : Nat} {f g : DE} (hK : X.K = Z.K) (hm : X.mg "zip" = none) (ha : PA X [e, e2] (tArgs Z W [f, g])) (hg : Gl X "zip" := by rfl)
    (hs : starEach [e, e2] X.env = (false, eval e X.env) :: starEach [e2] X.env := by rfl) (hpl : (backTo pos (starEach [e2] X.env)).any (·.1) = false := by rfl) :
    PI X (.Tuple elts kk tpos) (.Call (.Name "zip" p) [e, e2] [] pos) (tI Z W (iArgs [f, g] kZip)) :=
  (pi_zip hg hm ha hs hpl).weak fun σ H R h => tArgs_imp (fun xs H1 ⟨A, F, ce, vs, ds, so, r, hk, q⟩ => by
    rw [hK]
    unfold kZip at hk
    split at hk
    · split at hk
      · rename_i xs ys e1 e2
        cases hk
        replace r := vreps2 r
        obtain ⟨x, y, rfl, r, r'⟩ := r
        obtain ⟨a, ws, rfl, h1, h2⟩ := wlst_rd so r e1
        obtain ⟨b, us, rfl, h3, h4⟩ := wlst_rd so r' e2
        exact ⟨a, b, ws, us, rfl, so.sub.seq h1, so.sub.seq h3, q _ (jok_z h1 h3 h2 h4)⟩
      · cases hk
    · cases hk) (tIN h)
end
end ZZ
set_option Elab.async false
set_option linter.all false
set_option maxRecDepth 100000
namespace ZZ
open PySem PySem.Spec L2
def wipeD (sl : Sl) : List Nat → Sl
  | [] => sl
  | v :: vs => (wipeD sl vs).set v none
def lcD (own : List Nat) (g : GD) (t f : DE) (n : Nat) : List D → Sl → List Cell → EOut
  | [], sl, ce => .ok (.cell n) ce
  | d :: ds, sl, ce => match g d (wipeD sl own) with
    | none => .stuck
    | some sl1 => match t sl1 ce with
      | .ok (.im (.bl b)) ce1 => if b then (match f sl1 ce1 with
        | .ok (.im y) ce2 => match ce2[n]? with
          | some (.lst acc) => if acc.length < LINE then lcD own g t f n ds sl (ce2.set n (.lst (acc ++ [y]))) else .stuck
          | _ => .stuck
        | _ => .stuck) else lcD own g t f n ds sl ce1
      | _ => .stuck
/-- a comprehension's list, as an own list -/
def eLcC (own : List Nat) (fi : DI) (g : GD) (t f : DE) : DE := fun sl ce => match fi sl ce with
  | .ok ds ce' => lcD own g t f ce'.length ds sl (ce' ++ [.lst []])
  | .exc c ds ce' => .exc c ds ce'
  | .stuck => .stuck
/-- an own list that an expression gives, settled -/
def eSettle (f : DE) : DE := fun sl ce => match f sl ce with
  | .ok (.cell n) ce2 => match ce2[n]? with
    | some (.lst ds) => .ok (.im (.lst ds)) ((ce2.set n .dead).take ce.length)
    | some (.dct ks vs) => .ok (.im (.dct ks vs)) ((ce2.set n .dead).take ce.length)
    | _ => .stuck
  | r => r
section
variable {Z : Zy} {A A' : List Addr} {F F' H : Hp} {ce : List Cell} {sl : Sl} {σ : L2.St} {W : WX} {Q Q' : VK}
theorem PtrL.cut {A : List Addr} {n k : Nat} (hk : k < n) : ∀ {ks : List Nat} {bs : List Addr}, PtrL A k ks bs → PtrL (A.take n) k ks bs
  | [], bs, h => h
  | j :: js, bs, ⟨b, t, e, h1, h2, h3⟩ => ⟨b, t, e, h1, by rw [List.getElem?_take_of_lt (by omega)]; exact h2, PtrL.cut hk h3⟩
theorem CellOk.cut {Z : Zx} {a : Addr} {c : Cell} {k n : Nat} (nd : A.Nodup) (hk : A[k]? = some a) (hn : k < n) (h : CellOk Z A F H a c) : CellOk Z (A.take n) F H a c := by
  cases c with
  | dead => exact h
  | lst ds => exact h
  | ins c ds => exact h
  | dct ks vs => exact h
  | rws rows => exact ⟨h.1, h.2.elim fun bs q => ⟨bs, q.1, q.2.mono (Same.refl _) fun b n1 n2 _ => ⟨rfl, n2, fun z => n1 (List.mem_of_mem_take z)⟩⟩⟩
  | ptr ks =>
    obtain ⟨h0, k0, bs, h1, h2, h3⟩ := h
    have e : k0 = k := (List.getElem?_inj (List.getElem?_eq_some_iff.mp h1).1 nd).mp (h1.trans hk.symm)
    subst e
    exact ⟨h0, k0, bs, by rw [List.getElem?_take_of_lt hn]; exact h1, h2, h3.cut hn⟩
theorem SO.take (n : Nat) (so : SO Z.toZx A F ce H) : SO Z.toZx (A.take n) F (ce.take n) H := by
  refine ⟨so.sub, by simp [so.len], ?_, fun k a c h1 h2 => ?_⟩
  · exact List.Nodup.sublist (List.take_sublist _ _) so.nd
  · have hk : k < n := by
      have := (List.getElem?_eq_some_iff.mp h1).1
      simp at this
      omega
    rw [List.getElem?_take_of_lt hk] at h1 h2
    exact (so.ok k a c h1 h2).cut so.nd h1 hk
theorem SL.wipe (hs : SL Z A F sl σ) : ∀ vs : List Nat, SL Z A F (wipeD sl vs) (L2.wipe σ vs)
  | [] => hs
  | v :: vs => (SL.wipe hs vs).gone
theorem wipe_get (σ : L2.St) : ∀ (vs : List Nat) (j : Nat), (L2.wipe σ vs)[j]? = if j ∈ vs then (if j < σ.length then some none else none) else σ[j]?
  | [], j => by simp [L2.wipe]
  | v :: vs, j => by
    unfold L2.wipe
    by_cases hj : v = j
    · subst hj
      by_cases hl : v < σ.length
      · rw [List.getElem?_set_self (by rw [wipe_length]; exact hl)]
        simp [hl]
      · rw [List.getElem?_eq_none (by rw [List.length_set, wipe_length]; omega)]
        simp [hl]
    · rw [List.getElem?_set_ne hj, wipe_get σ vs j]
      have : (j ∈ v :: vs) ↔ j ∈ vs := by
        simp only [List.mem_cons]
        exact ⟨fun h => h.resolve_left fun e => hj e.symm, .inr⟩
      simp only [this]
theorem wipe_agree {ix vs : List Nat} {σ2 : L2.St} (h : Agree ix (L2.wipe σ vs) σ2) (hi : ∀ i ∈ ix, i ∈ vs) : L2.wipe σ2 vs = L2.wipe σ vs := by
  refine List.ext_getElem? fun j => ?_
  have hl : σ2.length = σ.length := by rw [h.1, wipe_length]
  rw [wipe_get, wipe_get, hl]
  by_cases hj : j ∈ vs
  · simp [hj]
  · simp only [hj, if_false]
    have := h.2 j fun z => hj (hi j z)
    rw [this, wipe_get]
    simp [hj]
end
section
variable {X : Cx} {Z : Zy} {elt tg iter : Expr} {ifs : List Expr} {scope : Scope} {own : List (Str × Nat)} {ix : List Nat} {fi : DI} {g : GD} {t f : DE} {pos : Pos} {W : WX}
theorem dts_nil : PTs X [] (tT Z W (eC (.bl true))) := ⟨fun pins s σ H Q I h => pts_nil.run pins s σ H Q I (by
  obtain ⟨A, F, sl, ce, so, hs, p⟩ := h
  obtain ⟨b, e, q⟩ := fin_flat so p repB
  cases e
  exact q)⟩
/-- the reading of a comprehension: a wish on the cell's end -/
theorem lc_read {σ : L2.St} {H : Hp} {Q : VK} {A F sl ce} (hix : ∀ i ∈ ix, i ∈ own.map (·.2)) (so : SO Z.toZx A F ce H) (hs : SL Z A F sl σ)
    (p : match fi sl ce with
      | .ok ds ce' => PostE Z A F W σ Q (lcD (own.map (·.2)) g t f ce'.length ds sl (ce' ++ [.lst []]))
      | .exc c ds ce' => PostE Z A F W σ Q (.exc c ds ce')
      | .stuck => False) : tLc (tI Z W fi) (tG Z ix g) (tT Z WF t) (tE Z WF f) (own.map (·.2)) σ H Q := by
  refine ⟨A, F, sl, ce, so, hs, ?_⟩
  cases e : fi sl ce with
  | stuck => rw [e] at p; exact p.elim
  | exc c ds ce1 => rw [e] at p; exact p
  | ok ds ce1 =>
    rw [e] at p
    intro A1 F1 H1 J p1 e1 so1 hJ D hD
    have hn : A1.length = ce1.length := so1.len
    have so2 : SO Z.toZx (A1 ++ [D]) F1 (ce1 ++ [.lst []]) (upd H1 D (.lst [])) := so1.newCell hD ⟨so1.fnone hD, [], upd_same, reps_nil⟩
    refine ⟨fun i m H => m = ds.length - i ∧ i ≤ ds.length ∧ ∃ A2 F2 ce2, A1 ++ [D] <+: A2 ∧ Same F1 F2 ∧ SO Z.toZx A2 F2 ce2 H ∧ PostE Z A2 F2 W σ Q (lcD (own.map (·.2)) g t f ce1.length (ds.drop i) sl ce2),
      ⟨ds.length, rfl, Nat.zero_le _, A1 ++ [D], F1, _, List.prefix_refl _, Same.refl _, so2, p.mono (p1.trans (List.prefix_append _ _)) e1⟩, ?_⟩
    rintro i m H ⟨rfl, hi, A2, F2, ce2, pA, eF, so, q⟩
    have hA2 : A2[ce1.length]? = some D := by
      refine pre_get pA ?_
      rw [← hn]
      simp
    obtain ⟨j1, j2⟩ := hJ F2 H i eF so.sub
    by_cases hlt : i < ds.length
    · have hd : ds[i]? = some ds[i] := List.getElem?_eq_getElem hlt
      obtain ⟨go, yl⟩ := j2 _ hd
      refine .inr ⟨go, fun H => i + 1 ≤ ds.length ∧ ∃ A2 F2 ce2, A1 ++ [D] <+: A2 ∧ Same F1 F2 ∧ SO Z.toZx A2 F2 ce2 H ∧ PostE Z A2 F2 W σ Q (lcD (own.map (·.2)) g t f ce1.length (ds.drop (i + 1)) sl ce2), fun H' q => ⟨ds.length - (i + 1), by omega, rfl, q⟩, fun x H' hy => ?_⟩
      rw [List.drop_eq_getElem_cons hlt] at q
      have hsW := (hs.mono (p1.trans ((List.prefix_append _ _).trans pA)) (e1.trans eF)).wipe (own.map (·.2))
      have fin : ∀ F3 H3, Same F2 F3 → SO Z.toZx A2 F3 ce2 H3 → Rep Z.toZx F3 ds[i] x → tG Z ix g x (L2.wipe σ (own.map (·.2))) H3 fun σ2 H2 => L2.wipe σ2 (own.map (·.2)) = L2.wipe σ (own.map (·.2)) ∧ tT Z WF t σ2 H2 fun b H3 =>
          if b = true then tE Z WF f σ2 H3 fun y H4 => ∃ acc, H4 D = some (.lst acc) ∧ acc.length < sizeLine ∧ (fun H => i + 1 ≤ ds.length ∧ ∃ A2 F2 ce2, A1 ++ [D] <+: A2 ∧ Same F1 F2 ∧ SO Z.toZx A2 F2 ce2 H ∧ PostE Z A2 F2 W σ Q (lcD (own.map (·.2)) g t f ce1.length (ds.drop (i + 1)) sl ce2)) (upd H4 D (.lst (acc ++ [y])))
          else (fun H => i + 1 ≤ ds.length ∧ ∃ A2 F2 ce2, A1 ++ [D] <+: A2 ∧ Same F1 F2 ∧ SO Z.toZx A2 F2 ce2 H ∧ PostE Z A2 F2 W σ Q (lcD (own.map (·.2)) g t f ce1.length (ds.drop (i + 1)) sl ce2)) H3 := by
        intro F3 H3 e3 so3 r3
        refine ⟨A2, F3, wipeD sl (own.map (·.2)), ce2, ds[i], so3, hsW.mono (List.prefix_refl _) e3, r3, ?_⟩
        unfold lcD at q
        cases eg : g ds[i] (wipeD sl (own.map (·.2))) with
        | none => rw [eg] at q; exact q.elim
        | some sl1 =>
          simp only [eg] at q
          refine ⟨sl1, rfl, fun σ2 hs2 ag => ⟨wipe_agree ag hix, A2, F3, sl1, ce2, so3, hs2, ?_⟩⟩
          cases et : t sl1 ce2 with
          | stuck => rw [et] at q; exact q.elim
          | exc c ds ce3 => rw [et] at q; exact q.elim
          | ok vt ce3 =>
            rw [et] at q
            intro A4 F4 H4 xb p4 e4 so4 rb
            cases vt with
            | cell n => exact q.elim
            | exn c ds => exact q.elim
            | im d => cases d with
              | bl b =>
                refine ⟨b, rep_bl rb, ?_⟩
                cases b with
                | false =>
                  refine iteF ⟨hlt, A4, F4, ce3, pA.trans p4, (eF.trans e3).trans e4, so4, ?_⟩
                  exact PostE.mono p4 (e3.trans e4) (by simpa using q)
                | true =>
                  simp only [if_true] at q
                  refine iteT ⟨A4, F4, sl1, ce3, so4, hs2.mono p4 e4, ?_⟩
                  cases ef : f sl1 ce3 with
                  | stuck => rw [ef] at q; exact q.elim
                  | exc c ds ce5 => rw [ef] at q; exact q.elim
                  | ok vy ce5 =>
                    rw [ef] at q
                    intro A5 F5 H5 xy p5 e5 so5 ry
                    cases vy with
                    | cell n => exact q.elim
                    | exn c ds => exact q.elim
                    | im y =>
                      dsimp only at q
                      split at q
                      · rename_i acc hacc
                        split at q
                        · rename_i hline
                          have hA5 : A5[ce1.length]? = some D := pre_get p5 (pre_get p4 hA2)
                          obtain ⟨hF5, vs, hH5, r5⟩ := so5.ok _ _ _ hA5 hacc
                          refine ⟨vs, hH5, by rw [sizeLine_eq, ← r5.length]; exact hline, hlt, A5, F5, _, (pA.trans p4).trans p5, ((eF.trans e3).trans e4).trans e5, so5.write (c := .lst (acc ++ [y])) hA5 hF5 ⟨hF5, _, upd_same, r5.append (reps_cons ry reps_nil)⟩, ?_⟩
                          exact PostE.mono (p4.trans p5) ((e3.trans e4).trans e5) q
                        · exact q.elim
                      · exact q.elim
              | _ => exact q.elim
      rcases yl x H' hy with ⟨rx, rfl⟩ | ⟨q', o, hq', rfl, rx⟩
      · exact fin F2 _ (Same.refl _) so rx
      · exact fin _ _ (same_up (so.fnone hq')) (so.new hq') rx
    · have ei : i = ds.length := by omega
      refine .inl ⟨j1 ei, ?_⟩
      rw [ei, List.drop_length] at q
      exact q A2 F2 H (.ref D) (List.prefix_refl _) (Same.refl _) so ⟨D, hA2, rfl⟩
theorem lc_of (hix : ∀ i ∈ ix, i ∈ own.map (·.2)) {σ : L2.St} {H : Hp} {Q : VK} (h : tE Z W (eLcC (own.map (·.2)) fi g t f) σ H Q) : tLc (tI Z W fi) (tG Z ix g) (tT Z WF t) (tE Z WF f) (own.map (·.2)) σ H Q := by
  obtain ⟨A, F, sl, ce, so, hs', p⟩ := h
  refine lc_read hix so hs' ?_
  unfold eLcC at p
  cases e : fi sl ce with
  | stuck => rw [e] at p; exact p
  | exc c ds ce1 => rw [e] at p; exact p
  | ok ds ce1 => rw [e] at p; exact p
theorem de_lcC (hc : X.calm = true) (hN : X.N.Nodup) (ok : BlkOk X.N X.env.scope scope own) (hix : ∀ i ∈ ix, i ∈ own.map (·.2)) (hi : PI X tg iter (tI Z W fi))
    (hg : ∀ (s : Shared) (H : Hp) (C : Addr) (cl : List (Str × Addr)) (fp : List Addr), PG (X.blk s H scope (compEnvC scope cl C X.env) fp) tg (tG Z ix g)) (ht : ∀ (s : Shared) (H : Hp) (C : Addr) (cl : List (Str × Addr)) (fp : List Addr), PTs (X.blk s H scope (compEnvC scope cl C X.env) fp) ifs (tT Z WF t))
    (he : ∀ (s : Shared) (H : Hp) (C : Addr) (cl : List (Str × Addr)) (fp : List Addr), PE (X.blk s H scope (compEnvC scope cl C X.env) fp) elt (tE Z WF f)) (hs : ∀ x, foldedSetIterable iter X.env x = pure x := by intro _; rfl) :
    PE X (.ListComp elt [⟨tg, iter, ifs, 0⟩] scope pos) (tE Z W (eLcC (own.map (·.2)) fi g t f)) :=
  (pe_lc hc hN hi ok hg ht he hs).weak fun σ H Q h => lc_of hix h
theorem tE_settle {f : DE} {σ : L2.St} {H : Hp} {Q : VK} (h : tE Z W (eSettle f) σ H Q) : tE Z W f σ H Q := by
  obtain ⟨A, F, sl, ce, so, hs, p⟩ := h
  refine ⟨A, F, sl, ce, so, hs, ?_⟩
  unfold eSettle at p
  cases e : f sl ce with
  | stuck => rw [e] at p; exact p
  | exc c ds ce1 => rw [e] at p; exact p
  | ok v ce2 =>
    rw [e] at p
    cases v with
    | im d => exact p
    | exn c ds => exact p
    | cell n =>
      intro A' F' H' x pA eF so2 rx
      obtain ⟨a, ha, rfl⟩ := rx
      dsimp only at p
      split at p
      · rename_i acc hacc
        obtain ⟨hF, vs, hH, rr⟩ := so2.ok _ _ _ ha hacc
        have up := same_up (o := .lst vs) hF
        refine p (A'.take ce.length) (upd F' a (.lst vs)) H' (.ref a) ?_ (eF.trans up) ((so2.freeze ha hF hH).take _) ?_
        · obtain ⟨t, rfl⟩ := pA
          rw [← so.len, List.take_left]
          exact List.prefix_refl _
        · unfold VRep Rep
          exact ⟨a, vs, rfl, upd_same, rr.mono up⟩
      · rename_i ks vs hacc
        obtain ⟨hF, o, kvs, vvs, hH, sh, r1, r2⟩ := so2.ok _ _ _ ha hacc
        have up := same_up (o := o) hF
        refine p (A'.take ce.length) (upd F' a o) H' (.ref a) ?_ (eF.trans up) ((so2.freeze ha hF hH).take _) ?_
        · obtain ⟨t, rfl⟩ := pA
          rw [← so.len, List.take_left]
          exact List.prefix_refl _
        · unfold VRep Rep
          exact ⟨a, o, kvs, vvs, rfl, upd_same, sh, r1.mono up, r2.mono up⟩
      · exact p.elim
theorem de_settle {e : Expr} {f : DE} (h : PE X e (tE Z W f)) : PE X e (tE Z W (eSettle f)) := h.weak fun σ H Q q => tE_settle q
theorem ds_setLc {i : Nat} {y : Str} {py spos : Pos} (hc : X.calm = true) (hN : X.N.Nodup) (ok : BlkOk X.N X.env.scope scope own) (hix : ∀ i ∈ ix, i ∈ own.map (·.2)) (hi : PI X tg iter (tI Z W fi))
    (hg : ∀ (s : Shared) (H : Hp) (C : Addr) (cl : List (Str × Addr)) (fp : List Addr), PG (X.blk s H scope (compEnvC scope cl C X.env) fp) tg (tG Z ix g)) (ht : ∀ (s : Shared) (H : Hp) (C : Addr) (cl : List (Str × Addr)) (fp : List Addr), PTs (X.blk s H scope (compEnvC scope cl C X.env) fp) ifs (tT Z WF t))
    (he : ∀ (s : Shared) (H : Hp) (C : Addr) (cl : List (Str × Addr)) (fp : List Addr), PE (X.blk s H scope (compEnvC scope cl C X.env) fp) elt (tE Z WF f)) (hy : X.N[i]? = some y := by rfl) (hyl : X.env.scope.names.lookup y = some .local := by rfl)
    (hsw : swapsWith (.ListComp elt [⟨tg, iter, ifs, 0⟩] scope pos) (some (.Name y py)) spos.line X.env = pure true := by exact sw_true rfl rfl rfl (by decide +kernel)) (hs : ∀ x, foldedSetIterable iter X.env x = pure x := by intro _; rfl) :
    PS X (.Assign [.Name y py] (.ListComp elt [⟨tg, iter, ifs, 0⟩] scope pos) spos) (tS Z W (sSet i (eLcC (own.map (·.2)) fi g t f))) :=
  (ps_setLc hc hN hy hyl hsw hi ok hg ht he hs).weak fun D σ H h => lc_of hix (tE_imp (fun x H1 ⟨A, F, sl, ce, v, so, hs, r, p⟩ => nxS so (hs.set r) p) (tS1 h))
theorem ds_setLcI {i : Nat} {y : Str} {py spos : Pos} (hc : X.calm = true) (hN : X.N.Nodup) (ok : BlkOk X.N X.env.scope scope own) (hix : ∀ i ∈ ix, i ∈ own.map (·.2)) (hi : PI X tg iter (tI Z W fi))
    (hg : ∀ (s : Shared) (H : Hp) (C : Addr) (cl : List (Str × Addr)) (fp : List Addr), PG (X.blk s H scope (compEnvC scope cl C X.env) fp) tg (tG Z ix g)) (ht : ∀ (s : Shared) (H : Hp) (C : Addr) (cl : List (Str × Addr)) (fp : List Addr), PTs (X.blk s H scope (compEnvC scope cl C X.env) fp) ifs (tT Z WF t))
    (he : ∀ (s : Shared) (H : Hp) (C : Addr) (cl : List (Str × Addr)) (fp : List Addr), PE (X.blk s H scope (compEnvC scope cl C X.env) fp) elt (tE Z WF f)) (hy : X.N[i]? = some y := by rfl) (hyl : X.env.scope.names.lookup y = some .local := by rfl)
    (hsw : swapsWith (.ListComp elt [⟨tg, iter, ifs, 0⟩] scope pos) (some (.Name y py)) spos.line X.env = pure true := by exact sw_true rfl rfl rfl (by decide +kernel)) (hs : ∀ x, foldedSetIterable iter X.env x = pure x := by intro _; rfl) :
    PS X (.Assign [.Name y py] (.ListComp elt [⟨tg, iter, ifs, 0⟩] scope pos) spos) (tS Z W (sSet i (eSettle (eLcC (own.map (·.2)) fi g t f)))) :=
  (ps_setLc hc hN hy hyl hsw hi ok hg ht he hs).weak fun D σ H h => lc_of hix (tE_settle (tE_imp (fun x H1 ⟨A, F, sl, ce, v, so, hs, r, p⟩ => nxS so (hs.set r) p) (tS1 h)))
end
end ZZ
set_option Elab.async false
set_option linter.all false
set_option maxRecDepth 100000
namespace L2
open PySem PySem.Spec
section
variable {X : Cx} {CX : CXT} {k : Nat} {f C : Addr} {fd : FuncData} {ps : List Str} {sp : Sp} {dvs : List V} {ds : List Value} {E : L2.St → XK} {x m : Str} {p pos apos : Pos} {e o : Expr} {es : List Expr} {ta : TE} {t : TA}
def tMethZS (C : Addr) (m : Str) (sp : Sp) (dvs : List V) (E : L2.St → XK) (ta : TE) (t : TA) : TE := fun σ H Q => ta σ H fun x H1 => ∃ a dx fs, x = .ref a ∧ H1 a = some (.ins C dx fs) ∧ fs.lookup m = none ∧
  t σ H1 fun vs H2 => sp (x :: (vs ++ dvs)) H2 Q (E σ)
theorem pe_methZS {pl : Sem Bool} (he : PE X o ta) (c : Cls X.K C) (hm : Meth X.K C m f) (F : FnOk X.prog X.w X.K X.mg X.base CX k f fd ps sp) (hr : Room k X.A) (hb : Binds X.K fd ps ds) (hd : Vals dvs ds) (hx : ∀ σ, PassesAt CX X σ (E σ)) (ha : PA X (e :: es) t)
    (hst : starEach (e :: es) X.env = (false, eval e X.env) :: starEach es X.env := by rfl) (hpl : (backTo pos (starEach es X.env)).any (·.1) = false := by rfl)
    (ht : eval (.Call (.Attribute o m apos) (e :: es) [] pos) X.env = (do
      let ov ← eval o X.env
      standAt apos.atName
      let (f, first) ← holding [ov] (getMethod ov m pl)
      callWith pos f first (backTo pos (starEach (e :: es) X.env)) (backToKw pos (keywordEach [] X.env))) := by rfl) :
    PE X (.Call (.Attribute o m apos) (e :: es) [] pos) (tMethZS C m sp dvs E ta t) := by
  refine ⟨fun pins s σ H Q I h => ?_⟩
  refine PySem.W.methodCall_KW (pl := pl) (thn (he.run pins s σ H _ I h) fun u s1 ⟨x, H1, I1, rx, a, dx, fs, ex, ea, l, q⟩ => ?_) ht
  subst ex
  obtain rfl : u = Value.ref a := rx
  refine getmeth_ok I1 ea c hm l ?_
  refine PySem.W.callWith_K (first := [.ref a]) (h₀ := X.base) I.ok.mod.kin hm.kp (thn (ha.run pos pins s1 σ H1 _ I1 q) fun us s2 ⟨vs, H2, I2, r, q2⟩ => ⟨I2.kIn, ?_⟩) hst hpl
  exact run_fnSD (us := .ref a :: us) (vs := .ref a :: vs) F hr hb hd (hx σ) I2 (.cons rfl r) q2
theorem pe_meth0ZS {pl : Sem Bool} (he : PE X o ta) (c : Cls X.K C) (hm : Meth X.K C m f) (F : FnOk X.prog X.w X.K X.mg X.base CX k f fd ps sp) (hr : Room k X.A) (hb : Binds X.K fd ps ds) (hd : Vals dvs ds) (hx : ∀ σ, PassesAt CX X σ (E σ))
    (ht : eval (.Call (.Attribute o m apos) [] [] pos) X.env = (do
      let ov ← eval o X.env
      standAt apos.atName
      let (f, first) ← holding [ov] (getMethod ov m pl)
      callWith pos f first (backTo pos (starEach [] X.env)) (backToKw pos (keywordEach [] X.env))) := by rfl) :
    PE X (.Call (.Attribute o m apos) [] [] pos) (tMethZS C m sp dvs E ta tNil) := by
  refine ⟨fun pins s σ H Q I h => ?_⟩
  refine PySem.W.methodCall_KW (pl := pl) (thn (he.run pins s σ H _ I h) fun u s1 ⟨x, H1, I1, rx, a, dx, fs, ex, ea, l, q⟩ => ?_) ht
  subst ex
  obtain rfl : u = Value.ref a := rx
  refine getmeth_ok I1 ea c hm l ?_
  exact PySem.W.callWith_K0 (first := [.ref a]) I1.kIn hm.kp (run_fnSD (us := [.ref a]) (vs := [.ref a]) F hr hb hd (hx σ) I1 (.cons rfl .nil) q)
def tMakeZS (C : Addr) (sp : Sp) (dvs : List V) (E : L2.St → XK) (t : TA) : TE := fun σ H Q => t σ H fun vs H1 => ∀ x dx, H1 x = none → H1 dx = none → dx ≠ x →
  sp (.ref x :: (vs ++ dvs)) (upd (upd H1 dx (.own x)) x (.ins C dx [])) (fun v H2 => v = .non ∧ Q (.ref x) H2) (E σ)
theorem run_makeZS {pins : List (Addr × Obj)} {σ : L2.St} {H : Hp} {s : Shared} {Q : VK} {us : List Value} {vs : List V} (M : Mk X.K C f) (F : FnOk X.prog X.w X.K X.mg X.base CX k f fd ps sp) (hr : Room (k + 1) X.A) (hb : Binds X.K fd ps ds) (hd : Vals dvs ds)
    (hx : PassesAt CX X σ (E σ)) (I : Inv X pins σ H s) (r : Vals vs us)
    (h : ∀ x dx, H x = none → H dx = none → dx ≠ x → sp (.ref x :: (vs ++ dvs)) (upd (upd H dx (.own x)) x (.ins C dx [])) (fun v H2 => v = .non ∧ Q (.ref x) H2) (E σ)) :
    wpAny (model X.prog X.w) X.A (call (.ref C) us) (EP X pins σ Q) X.xe s := by
  have hq := h (s.heap.objs.size + 1) s.heap.objs.size (I.hok.fresh (Nat.le_succ _)) (I.hok.fresh (Nat.le_refl _)) (Nat.ne_of_lt (Nat.lt_succ_self _))
  have I2 := Inv.made (C := C) I
  have r2 : Vals (V.ref (s.heap.objs.size + 1) :: (vs ++ dvs)) (Value.ref (s.heap.objs.size + 1) :: (us ++ ds)) := .cons rfl (r.append hd)
  have hl : (Value.ref (s.heap.objs.size + 1) :: us ++ ds).length = ps.length := by
    have e := r2.length
    rw [F.len _ _ _ _ hq] at e
    exact e.symm
  refine wpAny_call (make_map (f := f) I.kIn M.makes M.init (beq_iff_eq.mp M.fn) (codeAny_mono (F.run _ X.stack _ _ ⟨Value.ref (s.heap.objs.size + 1) :: us, []⟩ (Value.ref (s.heap.objs.size + 1) :: (us ++ ds)) _ _ (E σ) (hr.make C us [])
    (I2.env0.make C us []) (hb _ (Value.ref (s.heap.objs.size + 1) :: us) I2.kIn hl) r2 hq) fun r s' hq' => ?_))
  cases r with
  | error e => exact hx pins _ _ e s' I2 hq'
  | ok fl =>
    cases fl with
    | ret u =>
      obtain ⟨v, H', I3, rv, ev, q3⟩ := I2.after hq'
      subst ev
      exact ⟨rv, ⟨V.ref (s.heap.objs.size + 1), H', I3, rfl, q3⟩⟩
    | next => exact False.elim hq'
    | brk => exact False.elim hq'
    | cont => exact False.elim hq'
theorem pe_makeZS (M : Mk X.K C f) (F : FnOk X.prog X.w X.K X.mg X.base CX k f fd ps sp) (hr : Room (k + 1) X.A) (hg : Gl X x) (hm : X.mg x = some (.ref C)) (hb : Binds X.K fd ps ds) (hd : Vals dvs ds) (hx : ∀ σ, PassesAt CX X σ (E σ))
    (ha : PA X (e :: es) t) (hdb : (x == ("__debug__" : Str)) = false := by decide) (he : starEach (e :: es) X.env = (false, eval e X.env) :: starEach es X.env := by rfl) (hpl : (backTo pos (starEach es X.env)).any (·.1) = false := by rfl) :
    PE X (.Call (.Name x p) (e :: es) [] pos) (tMakeZS C sp dvs E t) := by
  refine ⟨fun pins s σ H Q I h => ?_⟩
  refine wpAny_Call_Name_kw (ld_glob I hg hm ?_ hdb)
  refine PySem.W.callWith_K (h₀ := X.base) I.ok.mod.kin M.kp (thn (ha.run pos pins s σ H _ I h) fun us s1 ⟨vs, H1, I1, r, q⟩ => ⟨I1.kIn, ?_⟩) he hpl
  exact run_makeZS M F hr hb hd (hx σ) I1 r q
end
end L2
namespace ZZ
open PySem PySem.Spec L2
abbrev Zx.z (Z : Zx) : Zy := ⟨Z, none⟩
abbrev DF : Type := List Val → List Cell → EOut
/-- a def's promise: it computes fh -/
def spD (Z : Zx) (fh : DF) (n : Nat) : Sp := fun vs H Q E => ∃ A F ce ds, SO Z A F ce H ∧ VReps Z.z A F ds vs ∧ ds.length = n ∧ PostE Z.z A F (fun c d _ H => E c d H) [] Q (fh ds ce)
/-- a def's value: its body run, the store cut -/
def finD (n : Nat) (v : Val) (ce : List Cell) : EOut := match v with
  | .im d => .ok (.im d) (ce.take n)
  | .cell k => if k < n then .ok (.cell k) (ce.take n) else (match ce[k]? with
    | some (.ptr _) => .stuck
    | some (.rws _) => .stuck
    | some c => .ok (.cell n) (ce.take n ++ [c])
    | none => .stuck)
  | .exn _ _ => .stuck
def mkD (nsl : Nat) (body : DSt) : DF := fun ds ce => match body (ds.map some ++ List.replicate (nsl - ds.length) none) ce with
  | .nx _ ce' => finD ce.length (.im .non) ce'
  | .rt v ce' => finD ce.length v ce'
  | .exc c es _ ce' => .exc c es (ce'.take ce.length)
  | _ => .stuck
section
variable {Z : Zx} {A A' : List Addr} {F F' H : Hp} {ce : List Cell} {sl : Sl} {σ : L2.St} {W : WX} {Q Q' : VK}
theorem SO.cut {n : Nat} (so : SO Z A' F ce H) (p : A <+: A') (hn : A.length = n) : SO Z A F (ce.take n) H := by
  have := SO.take (Z := Z.z) n so
  obtain ⟨t, rfl⟩ := p
  rw [← hn, List.take_left] at this
  rw [← hn]
  exact this
theorem vrep_z {Y : Zy} (hy : Y.toZx = Z) {v : Val} {x : V} (h1 : VRep Z.z A F v x) : VRep Y A F v x := by
  subst hy
  cases v with
  | im d => exact h1
  | cell k => exact h1
  | exn c ds => exact h1.elim (fun ⟨_, a, dx, h, _⟩ => by cases h) .inr
/-- values that a callee may take -/
def plainV : Val → Bool
  | .exn c _ => decide (1000 ≤ c)
  | _ => true
theorem VReps.nohd {Y : Zy} : ∀ {vs : List Val} {xs : List V}, vs.all plainV = true → VReps Y A F vs xs → VReps (Zx.z Y.toZx) A F vs xs
  | [], _, _, h => h
  | v :: vs, _, hp, ⟨x, r, e, h1, h2⟩ => by
    simp only [List.all_cons, Bool.and_eq_true] at hp
    refine ⟨x, r, e, ?_, VReps.nohd hp.2 h2⟩
    cases v with
    | im d => exact h1
    | cell k => exact h1
    | exn c ds => exact h1.elim (fun h => absurd (of_decide_eq_true hp.1) (by omega)) .inr
theorem vreps_start {N : List Str} {ds : List Val} {vs : List V} (h : VReps Z.z A F ds vs) : SL Z.z A F (ds.map some ++ List.replicate (N.length - ds.length) none) (L2.start N vs) := by
  have hl := h.length
  unfold L2.start
  rw [hl]
  refine ⟨by simp [hl], ?_⟩
  have key : ∀ {ds : List Val} {vs : List V} (m : Nat), VReps Z.z A F ds vs → ∀ (i : Nat) (v : Val), (ds.map some ++ List.replicate m none)[i]? = some (some v) → ∃ x, (vs.map some ++ List.replicate m none)[i]? = some (some x) ∧ VRep Z.z A F v x := by
    intro ds
    induction ds with
    | nil =>
      intro vs m h i v e
      unfold VReps at h
      subst h
      simp [List.getElem?_replicate] at e
    | cons d ds ih =>
      intro vs m h i v e
      obtain ⟨x, r, rfl, h1, h2⟩ := h
      cases i with
      | zero =>
        simp at e
        subst e
        exact ⟨x, by simp, h1⟩
      | succ i =>
        obtain ⟨y, e2, r2⟩ := ih m h2 i v (by simpa using e)
        exact ⟨y, by simpa using e2, r2⟩
  exact key _ h
theorem fin_ok {n : Nat} {v : Val} {ce' : List Cell} {H' : Hp} {x : V} (hn : A.length = n) (p : A <+: A') (e : Same F F') (so : SO Z A' F' ce' H') (r : VRep Z.z A' F' v x) (q : PostE Z.z A F W σ Q (finD n v ce')) : Q x H' := by
  cases v with
  | im d => exact q A F' H' x (List.prefix_refl _) e (so.cut p hn) r
  | exn c ds => exact q.elim
  | cell k =>
    unfold finD at q
    obtain ⟨a, ha, rfl⟩ := r
    dsimp only at q
    by_cases hk : k < n
    · rw [if_pos hk] at q
      refine q A F' H' _ (List.prefix_refl _) e (so.cut p hn) ⟨a, ?_, rfl⟩
      obtain ⟨t, rfl⟩ := p
      rw [List.getElem?_append_left (by omega)] at ha
      exact ha
    · rw [if_neg hk] at q
      have hlen : k < ce'.length := by rw [← so.len]; exact (List.getElem?_eq_some_iff.mp ha).1
      rw [List.getElem?_eq_getElem hlen] at q
      have s2 := so.cut p hn
      have hc2 := so.ok k a _ ha (List.getElem?_eq_getElem hlen)
      have hnp : ∀ ks, ce'[k] ≠ .ptr ks := fun ks e => by
        rw [e] at q
        exact q.elim
      have hnr : ∀ rs, ce'[k] ≠ .rws rs := fun rs e => by
        rw [e] at q
        exact q.elim
      have q2 : PostE Z.z A F W σ Q (.ok (.cell n) (ce'.take n ++ [ce'[k]])) := by
        cases hc : ce'[k] with
        | ptr ks => exact absurd hc (hnp ks)
        | rws rs => exact absurd hc (hnr rs)
        | dead => rw [hc] at q; exact q
        | lst ds => rw [hc] at q; exact q
        | ins c ds => rw [hc] at q; exact q
        | dct ks vs => rw [hc] at q; exact q
      refine q2 (A ++ [a]) F' H' _ (List.prefix_append _ _) e ⟨s2.sub, by simp [s2.len], ?_, fun j b c h1 h2 => ?_⟩ ⟨a, by simp [← hn], rfl⟩
      · refine List.nodup_append.mpr ⟨s2.nd, by simp, fun b hb c hc ebc => ?_⟩
        simp at hc
        subst hc
        subst ebc
        obtain ⟨t, rfl⟩ := p
        obtain ⟨j, hj⟩ := List.getElem?_of_mem hb
        have hjl := (List.getElem?_eq_some_iff.mp hj).1
        have hj' : (A ++ t)[j]? = some b := by rw [List.getElem?_append_left hjl]; exact hj
        have := (List.getElem?_inj (List.getElem?_eq_some_iff.mp hj').1 so.nd).mp (hj'.trans ha.symm)
        omega
      · by_cases hj : j < A.length
        · rw [List.getElem?_append_left hj] at h1
          rw [List.getElem?_append_left (by rw [← s2.len]; exact hj)] at h2
          have h1' := pre_get p h1
          have h2' : ce'[j]? = some c := by rw [← h2, List.getElem?_take_of_lt (by omega)]
          by_cases hr : ∃ rs, c = .rws rs
          · obtain ⟨rs, rfl⟩ := hr
            obtain ⟨q1, bs, q3, q4⟩ := so.ok j b _ h1' h2'
            refine ⟨q1, bs, q3, q4.mono (Same.refl _) fun z n1 n2 _ => ⟨rfl, n2, fun y => n1 ?_⟩⟩
            rcases List.mem_append.mp y with y | y
            · exact p.subset y
            · rw [List.mem_singleton.mp y]; exact List.mem_of_getElem? ha
          · cases c with
            | rws rs => exact absurd ⟨rs, rfl⟩ hr
            | dead => exact s2.ok j b _ h1 h2
            | lst ds => exact s2.ok j b _ h1 h2
            | ins x ds => exact s2.ok j b _ h1 h2
            | dct ks vs => exact s2.ok j b _ h1 h2
            | ptr ks =>
              obtain ⟨q1, k0, bs, q2, q3, q4⟩ := s2.ok j b _ h1 h2
              exact ⟨q1, k0, bs, pre_get (List.prefix_append _ _) q2, q3, q4.mono (List.prefix_append _ _)⟩
        · rw [List.getElem?_append_right (by omega)] at h1
          rw [List.getElem?_append_right (by rw [← s2.len]; omega), ← s2.len] at h2
          have hj0 : j - A.length = 0 := by
            have := (List.getElem?_eq_some_iff.mp h1).1
            simp at this
            omega
          rw [hj0] at h1 h2
          simp at h1 h2
          subst h1 h2
          cases hc : ce'[k] with
          | ptr ks => exact absurd hc (hnp ks)
          | rws rs => exact absurd hc (hnr rs)
          | dead => rw [hc] at hc2; exact hc2
          | lst ds => rw [hc] at hc2; exact hc2
          | ins c ds => rw [hc] at hc2; exact hc2
          | dct ks vs => rw [hc] at hc2; exact hc2
end
section
variable {P : Program} {w : World} {K : PySem.W.Frag} {mg : Str → Option Value} {base : Heap}
/-- a def keeps its promise: its body's rule -/
theorem fnD {Z : Zx} {x qual : Str} {st : Stmt} {f : Addr} {fd : FuncData} {N ps : List Str} {k nsl n : Nat} {body : DSt} (Fn : Fun K x qual st f fd) (S : FnScope N ps (defScope st)) (hN : N.length = nsl) (hn : ps.length = n)
    (hbody : ∀ (cdv : Value) (A : Around) (outer : List Env) (s : Shared) (H : Hp) (E : XK), Room k (A.deeper (PyProof.Rows.envOfC qual (defScope st) s.heap.objs.size f cdv)) →
      PSs (cxOf (L2N.CX P w) P w K mg base N qual (defScope st) f cdv A outer s H E) (defBody st) (tS Z.z (fun cls d _ H => E cls d H) body)) : FnOk P w K mg base (L2N.CX P w) (k + 1) f fd ps (spD Z (mkD nsl body) n) := by
  subst hN hn
  obtain ⟨oc, od, kV, doc, pm, an, cdv, ct, osl, rfl, lk, hcd⟩ := Fn.ex
  refine fn_of lk hcd S (fun vs H Q E ⟨A, F, ce, ds, so, r, l, p⟩ => by rw [← r.length]; exact l) fun A outer s H vs Q E hr ⟨A0, F0, ce, ds, so, r, l, p⟩ => ⟨_, hbody cdv A outer s H E hr, A0, F0, _, ce, so, vreps_start r, ?_⟩
  unfold mkD at p
  have hn := so.len
  cases e : body (ds.map some ++ List.replicate (N.length - ds.length) none) ce with
  | nx sl ce' => rw [e] at p; exact fun A' F' H' σ' pA eF so' hs' => fin_ok hn pA eF so' (show VRep Z.z A' F' (.im .non) .non by unfold VRep Rep; rfl) p
  | rt v ce' => rw [e] at p; exact fun A' F' H' x pA eF so' r' => fin_ok hn pA eF so' r' p
  | exc c es sl ce' => rw [e] at p; exact fun A' F' H' σ' dx pA eF so' hs' xo => p A0 F' H' dx (List.prefix_refl _) eF (so'.cut pA hn) xo
  | bk sl ce' => rw [e] at p; exact p.elim
  | ct sl ce' => rw [e] at p; exact p.elim
  | stuck => rw [e] at p; exact p.elim
end
def kCall (fh : DF) (vs : List Val) : DE := fun _ ce => if vs.all plainV then fh vs ce else .stuck
/-- o.m(..): o is an instance of the class c -/
def isC (c : Nat) (ce : List Cell) : Val → Bool
  | .im (.ins d _) => d == c
  | .cell k => match ce[k]? with
    | some (.ins d _) => d == c
    | _ => false
  | _ => false
def kMeth (fh : DF) (v : Val) (vs : List Val) : DE := fun _ ce => if (v :: vs).all plainV then fh (v :: vs) ce else .stuck
/-- C(..), settled -/
def kMake (c nf : Nat) (fh : DF) (vs : List Val) : DE := fun _ ce => if vs.all plainV then (match fh (.cell ce.length :: vs) (ce ++ [.ins c []]) with
  | .ok (.im .non) ce' => match ce'[ce.length]? with
    | some (.ins d ds) => if d = c ∧ ds.length = nf then .ok (.im (.ins c ds)) (ce'.take ce.length) else .stuck
    | _ => .stuck
  | .exc d ds ce' => .exc d ds (ce'.take ce.length)
  | _ => .stuck) else .stuck
section
variable {X : Cx} {Z : Zy} {W : WX} {k : Nat} {fa C : Addr} {fd : FuncData} {ps : List Str} {fh : DF} {x m : Str} {p pos apos : Pos} {e o : Expr} {es : List Expr} {f : DE} {fs : List DE} {n : Nat}
theorem spD_call {A : List Addr} {F : Hp} {sl : Sl} {ce : List Cell} {σ : L2.St} {Q : VK} {vs : List Val} {xs : List V} {H : Hp} (so : SO Z.toZx A F ce H) (r : VReps Z A F vs xs) (hl : vs.length = n) (pl : vs.all plainV = true) (q : PostE Z A F W σ Q (fh vs ce)) : spD Z.toZx fh n xs H Q (WE W σ) := by
  refine ⟨A, F, ce, vs, so, r.nohd pl, hl, ?_⟩
  cases e : fh vs ce with
  | ok v ce' => rw [e] at q; exact fun A' F' H' x pA eF so' r' => q A' F' H' x pA eF so' (vrep_z rfl r')
  | exc c ds ce' => rw [e] at q; exact q
  | stuck => rw [e] at q; exact q
theorem de_call (F : FnOk X.prog X.w X.K X.mg X.base (L2N.CX X.prog X.w) k fa fd ps (spD Z.toZx fh n)) (hr : Room k X.A) (hm : X.mg x = some (.ref fa)) (hk : PySem.W.keepIn X.K (.ref fa) = true) (hb : Binds X.K fd ps []) (tw : TW X W) (ha : PA X (e :: es) (tArgs Z W fs))
    (hg : Gl X x := by rfl) (hl : fs.length = n := by rfl) (hdb : (x == ("__debug__" : Str)) = false := by decide) (he : starEach (e :: es) X.env = (false, eval e X.env) :: starEach es X.env := by rfl) (hpl : (backTo pos (starEach es X.env)).any (·.1) = false := by rfl) :
    PE X (.Call (.Name x p) (e :: es) [] pos) (tE Z W (eArgs fs (kCall fh))) :=
  (pe_callS F hr hg hm hk hb tw ha hdb he hpl).weak fun σ H Q h => tArgs_imp (fun xs H1 ⟨A, F, sl, ce, vs, so, hs, r, l, q⟩ => by
    unfold kCall at q
    by_cases hp : vs.all plainV = true
    · rw [if_pos hp] at q
      exact spD_call (sl := sl) so r (by rw [l, hl]) hp q
    · rw [if_neg hp] at q
      exact q.elim) (tN h)
/-- a class's plain facts -/
structure ClsOk (K : PySem.W.Frag) (Z : Zx) (c : Nat) : Prop where
  cls : Cls K (Z.cl c)
  nd : (Z.fl c).Nodup
theorem take_lookup {m : Str} {fs : List (Str × V)} {l : List Str} {n : Nat} (e : fs.map (·.1) = l.take n) (h : m ∉ l) : fs.lookup m = none := by
  have : m ∉ fs.map (·.1) := by rw [e]; exact fun z => h (List.mem_of_mem_take z)
  rw [List.lookup_eq_none_iff]
  intro p hp
  refine bne_iff_ne.mpr fun z => this ?_
  rw [z]
  exact List.mem_map_of_mem hp
theorem isC_rd {A F ce H c v y} (so : SO Z.toZx A F ce H) (r : VRep Z A F v y) (h : isC c ce v = true) : ∃ a dx fs n, y = .ref a ∧ H a = some (.ins (Z.cl c) dx fs) ∧ fs.map (·.1) = (Z.fl c).take n := by
  unfold isC at h
  split at h
  · rename_i d ds
    unfold VRep Rep at r
    obtain ⟨a, dx, fs, rfl, h1, h2, h3⟩ := r
    have := beq_iff_eq.mp h
    subst this
    exact ⟨a, dx, fs, (Z.fl d).length, rfl, so.sub _ _ h1, by rw [h2, List.take_length]⟩
  · split at h
    · rename_i k d ds hk
      have := beq_iff_eq.mp h
      subst this
      obtain ⟨a, ha, rfl⟩ := r
      obtain ⟨_, dx, fs, h1, h2, h3⟩ := so.ok _ _ _ ha hk
      exact ⟨a, dx, fs, _, rfl, h1, h2⟩
    · cases h
  · cases h
theorem isC_plain {ce c v} (h : isC c ce v = true) : plainV v = true := by
  unfold isC at h
  split at h <;> first | rfl | cases h
theorem de_meth {pl : Sem Bool} {c : Nat} (he : PE X o (tE Z W f)) (hc : ClsOk X.K Z.toZx c) (hmt : Meth X.K (Z.cl c) m fa) (hno : m ∉ Z.fl c) (F : FnOk X.prog X.w X.K X.mg X.base (L2N.CX X.prog X.w) k fa fd ps (spD Z.toZx fh (n + 1))) (hr : Room k X.A) (hb : Binds X.K fd ps []) (tw : TW X W) (ha : PA X (e :: es) (tArgs Z W fs))
    (hl : fs.length = n := by rfl) (hst : starEach (e :: es) X.env = (false, eval e X.env) :: starEach es X.env := by rfl) (hpl : (backTo pos (starEach es X.env)).any (·.1) = false := by rfl)
    (ht : eval (.Call (.Attribute o m apos) (e :: es) [] pos) X.env = (do
      let ov ← eval o X.env
      standAt apos.atName
      let (f, first) ← holding [ov] (getMethod ov m pl)
      callWith pos f first (backTo pos (starEach (e :: es) X.env)) (backToKw pos (keywordEach [] X.env))) := by rfl) :
    PE X (.Call (.Attribute o m apos) (e :: es) [] pos) (tE Z W (eMth (isC c) (kMeth fh) f fs)) :=
  (pe_methZS he hc.cls hmt F hr hb .nil tw ha hst hpl ht).weak fun σ H Q q => tE_imp (fun x H1 ⟨A, F, sl, ce, v, so, hs, r, p⟩ => by
    by_cases hi : isC c ce v = true
    · rw [if_pos hi] at p
      obtain ⟨a, dx, fs', n', rfl, h1, h2⟩ := isC_rd so r hi
      refine ⟨a, dx, fs', rfl, h1, take_lookup h2 hno, tArgs_imp (fun xs H2 ⟨A2, F2, ce2, vs, p2, e2, s2, r2, l2, q2⟩ => ?_) (tArgs_ok so hs p)⟩
      rw [List.append_nil]
      unfold kMeth at q2
      by_cases hp : (v :: vs).all plainV = true
      · rw [if_pos hp] at q2
        exact spD_call (sl := sl) (vs := v :: vs) s2 ⟨_, _, rfl, r.mono p2 e2, r2⟩ (by simp [l2, hl]) hp q2
      · rw [if_neg hp] at q2
        exact q2.elim
    · rw [if_neg hi] at p
      exact p.elim) (tE1 q)
theorem de_meth0 {pl : Sem Bool} {c : Nat} (he : PE X o (tE Z W f)) (hc : ClsOk X.K Z.toZx c) (hmt : Meth X.K (Z.cl c) m fa) (hno : m ∉ Z.fl c) (F : FnOk X.prog X.w X.K X.mg X.base (L2N.CX X.prog X.w) k fa fd ps (spD Z.toZx fh 1)) (hr : Room k X.A) (hb : Binds X.K fd ps []) (tw : TW X W)
    (ht : eval (.Call (.Attribute o m apos) [] [] pos) X.env = (do
      let ov ← eval o X.env
      standAt apos.atName
      let (f, first) ← holding [ov] (getMethod ov m pl)
      callWith pos f first (backTo pos (starEach [] X.env)) (backToKw pos (keywordEach [] X.env))) := by rfl) :
    PE X (.Call (.Attribute o m apos) [] [] pos) (tE Z W (eMth (isC c) (kMeth fh) f [])) :=
  (pe_meth0ZS he hc.cls hmt F hr hb .nil tw ht).weak fun σ H Q q => tE_imp (fun x H1 ⟨A, F, sl, ce, v, so, hs, r, p⟩ => by
    by_cases hi : isC c ce v = true
    · rw [if_pos hi] at p
      obtain ⟨a, dx, fs', n', rfl, h1, h2⟩ := isC_rd so r hi
      refine ⟨a, dx, fs', rfl, h1, take_lookup h2 hno, ?_⟩
      unfold eArgs kMeth at p
      by_cases hp : [v].all plainV = true
      · rw [if_pos hp] at p
        exact spD_call (sl := sl) (vs := [v]) so ⟨_, _, rfl, r, rfl⟩ rfl hp p
      · rw [if_neg hp] at p
        exact p.elim
    · rw [if_neg hi] at p
      exact p.elim) (tE1 q)
theorem de_make {c nf : Nat} (M : Mk X.K (Z.cl c) fa) (F : FnOk X.prog X.w X.K X.mg X.base (L2N.CX X.prog X.w) k fa fd ps (spD Z.toZx fh (n + 1))) (hr : Room (k + 1) X.A) (hm : X.mg x = some (.ref (Z.cl c))) (hb : Binds X.K fd ps []) (tw : TW X W) (ha : PA X (e :: es) (tArgs Z W fs)) (hfl : (Z.fl c).length = nf)
    (hg : Gl X x := by rfl) (hl : fs.length = n := by rfl) (hdb : (x == ("__debug__" : Str)) = false := by decide) (he : starEach (e :: es) X.env = (false, eval e X.env) :: starEach es X.env := by rfl) (hpl : (backTo pos (starEach es X.env)).any (·.1) = false := by rfl) :
    PE X (.Call (.Name x p) (e :: es) [] pos) (tE Z W (eArgs fs (kMake c nf fh))) :=
  (pe_makeZS M F hr hg hm hb .nil tw ha hdb he hpl).weak fun σ H Q h => tArgs_imp (fun xs H1 ⟨A, F, sl, ce, vs, so, hs, r, l, q⟩ => by
    intro a dx ha' hdx hne
    rw [List.append_nil]
    unfold kMake at q
    by_cases hp : vs.all plainV = true
    · rw [if_pos hp] at q
      -- the new instance's dict, then the instance as a cell
      have so1 := so.new (o := .own a) hdx
      have fa1 : (upd F dx (.own a)) a = none := by rw [upd_ne (Ne.symm hne)]; exact so.fnone ha'
      have ha1 : (upd H1 dx (.own a)) a = none := by rw [upd_ne (Ne.symm hne)]; exact ha'
      have so2 := so1.newCell (o := .ins (Z.cl c) dx []) (c := .ins c []) ha1 ⟨so1.fnone ha1, dx, [], upd_same, rfl, reps_nil⟩
      have up1 : Same F (upd F dx (.own a)) := same_up (so.fnone hdx)
      refine ⟨A ++ [a], upd F dx (.own a), ce ++ [.ins c []], .cell ce.length :: vs, so2, ⟨.ref a, xs, rfl, ⟨a, by rw [← so.len]; simp, rfl⟩, (r.mono (List.prefix_append _ _) up1).nohd hp⟩, by simp [l, hl], ?_⟩
      cases e : fh (.cell ce.length :: vs) (ce ++ [.ins c []]) with
      | stuck => rw [e] at q; exact q.elim
      | exc d ds ce' =>
        rw [e] at q
        exact fun A' F' H' dx' pA eF so' xo => q A F' H' dx' (List.prefix_refl _) (up1.trans eF) (so'.cut ((List.prefix_append _ _).trans pA) so.len) xo
      | ok v ce' =>
        rw [e] at q
        cases v with
        | cell n => exact q.elim
        | exn c ds => exact q.elim
        | im d => cases d with
          | non =>
            intro A' F' H' y pA eF so' ry
            refine ⟨rep_non (Z := Z.toZx.z) ry, ?_⟩
            have hAa : A'[ce.length]? = some a := pre_get pA (by rw [← so.len]; simp)
            dsimp only at q
            split at q
            · rename_i d ds hds
              by_cases hdc : d = c ∧ ds.length = nf
              · rw [if_pos hdc] at q
                obtain ⟨rfl, hll⟩ := hdc
                obtain ⟨hF, dx', fs', hH, hfs, rr⟩ := so'.ok _ _ _ hAa hds
                have up := same_up (o := .ins (Z.cl d) dx' fs') hF
                have s2 := (so'.freeze hAa hF hH).cut (A := A) ((List.prefix_append _ _).trans pA) so.len
                have e3 : (ce'.set ce.length .dead).take ce.length = ce'.take ce.length := by
                  refine List.ext_getElem? fun j => ?_
                  by_cases hj : j < ce.length
                  · rw [List.getElem?_take_of_lt hj, List.getElem?_take_of_lt hj, List.getElem?_set_ne (by omega)]
                  · rw [List.getElem?_eq_none (by simp; omega), List.getElem?_eq_none (by simp; omega)]
                rw [e3] at s2
                refine q A _ H' (.ref a) (List.prefix_refl _) ((up1.trans eF).trans up) s2 ?_
                unfold VRep Rep
                exact ⟨a, dx', fs', rfl, upd_same, by rw [hfs, hll, ← hfl, List.take_length], rr.mono up⟩
              · rw [if_neg hdc] at q
                exact q.elim
            · exact q.elim
          | _ => exact q.elim
    · rw [if_neg hp] at q
      exact q.elim) (tN h)
end
end ZZ
set_option Elab.async false
set_option linter.all false
set_option maxRecDepth 100000
namespace ZZ
open PySem PySem.Spec L2
/-- the i-th field of an instance of the class c -/
def kFld (c i : Nat) (v : Val) : DE := fun _ ce => match v with
  | .im (.ins d ds) => if d = c then (match ds[i]? with
    | some x => .ok (.im x) ce
    | none => .stuck) else .stuck
  | .cell k => match ce[k]? with
    | some (.ins d ds) => if d = c then (match ds[i]? with
      | some x => .ok (.im x) ce
      | none => .stuck) else .stuck
    | _ => .stuck
  | _ => .stuck
theorem lookup_ix {Z : Zx} {F : Hp} : ∀ {l : List Str} {fs : List (Str × V)} {ds : List D} {i : Nat} {f : Str} {x : D} {n : Nat}, l.Nodup → fs.map (·.1) = l.take n → Reps Z F ds (fs.map (·.2)) → l[i]? = some f → ds[i]? = some x → ∃ v, fs.lookup f = some v ∧ Rep Z F x v
  | l, [], ds, i, f, x, n, nd, e, r, h1, h2 => by
    rw [List.map_nil] at r
    have := r.length
    have : ds = [] := List.eq_nil_of_length_eq_zero (by simpa using this)
    subst this
    simp at h2
  | [], p :: fs, ds, i, f, x, n, nd, e, r, h1, h2 => by simp at h1
  | g :: l, (a, b) :: fs, ds, i, f, x, 0, nd, e, r, h1, h2 => by simp at e
  | g :: l, (a, b) :: fs, [], i, f, x, n + 1, nd, e, r, h1, h2 => by simp at h2
  | g :: l, (a, b) :: fs, d :: ds, 0, f, x, n + 1, nd, e, r, h1, h2 => by
    simp at e h1 h2
    subst h1 h2
    obtain ⟨v, r', e2, h3, h4⟩ := reps_cons_inv r
    simp at e2
    refine ⟨b, ?_, by rw [e2.1]; exact h3⟩
    simp [List.lookup, e.1]
  | g :: l, (a, b) :: fs, d :: ds, i + 1, f, x, n + 1, nd, e, r, h1, h2 => by
    simp at e h1 h2
    obtain ⟨v, r', e2, h3, h4⟩ := reps_cons_inv r
    simp at e2
    have nd' := List.nodup_cons.mp nd
    obtain ⟨v', h5, h6⟩ := lookup_ix (fs := fs) (n := n) nd'.2 e.2 (by rw [e2.2]; exact h4) h1 h2
    refine ⟨v', ?_, h6⟩
    have hne : f ≠ a := fun z => nd'.1 (by
      rw [← e.1, ← z]
      exact List.mem_of_getElem? h1)
    have : (f == a) = false := by simpa using hne
    simp [List.lookup, this, h5]
section
variable {X : Cx} {Z : Zy} {W : WX} {e o : Expr} {f g : DE} {pos : Pos} {c i : Nat} {nm : Str}
theorem de_fld (he : PE X e (tE Z W f)) (hK : X.K = Z.K) (hc : ClsOk X.K Z.toZx c) (hn : NoAttr X.K (Z.cl c) nm) (hi : (Z.fl c)[i]? = some nm) (hb : attributeBase e nm X.env (eval e X.env) = eval e X.env := by rfl) : PE X (.Attribute e nm pos) (tE Z W (eUn (kFld c i) f)) :=
  (pe_fld he hb).weak fun σ H Q q => tE_imp (fun x H1 ⟨A, F, sl, ce, v, so, hs, r, p⟩ => by
    unfold kFld at p
    split at p
    · rename_i d ds
      by_cases hd : d = c
      · rw [if_pos hd] at p
        subst hd
        split at p
        · rename_i y hy
          unfold VRep Rep at r
          obtain ⟨a, dx, fs, rfl, h1, h2, h3⟩ := r
          obtain ⟨v, h4, h5⟩ := lookup_ix (n := (Z.fl d).length) hc.nd (by rw [h2, List.take_length]) h3 hi hy
          exact ⟨a, _, dx, fs, v, rfl, so.sub _ _ h1, hc.cls, hn, h4, fin_flat so p h5⟩
        · exact p.elim
      · rw [if_neg hd] at p
        exact p.elim
    · split at p
      · rename_i k d ds hk
        by_cases hd : d = c
        · rw [if_pos hd] at p
          subst hd
          split at p
          · rename_i y hy
            obtain ⟨a, ha, rfl⟩ := r
            obtain ⟨_, dx, fs, h1, h2, h3⟩ := so.ok _ _ _ ha hk
            obtain ⟨v, h4, h5⟩ := lookup_ix hc.nd h2 h3 hi hy
            exact ⟨a, _, dx, fs, v, rfl, h1, hc.cls, hn, h4, fin_flat so p h5⟩
          · exact p.elim
        · rw [if_neg hd] at p
          exact p.elim
      · exact p.elim
    · exact p.elim) (tE1 q)
/-- self.f = e: f is the i-th field -/
def sFldSet (c i : Nat) (f g : DE) : DSt := sExp g fun u => sExp f fun v sl ce => match v, u with
  | .cell k, .im d => match ce[k]? with
    | some (.ins c' ds) => if c' = c then (if i < ds.length then .nx sl (ce.set k (.ins c (ds.set i d))) else if i = ds.length then .nx sl (ce.set k (.ins c (ds ++ [d]))) else .stuck) else .stuck
    | _ => .stuck
  | _, _ => .stuck
theorem putF_old {Z : Zx} {F : Hp} : ∀ {l : List Str} {fs : List (Str × V)} {ds : List D} {i : Nat} {nm : Str} {x : D} {v : V} {n : Nat}, l.Nodup → fs.map (·.1) = l.take n → Reps Z F ds (fs.map (·.2)) → l[i]? = some nm → i < ds.length → Rep Z F x v →
    (putF nm v fs).map (·.1) = l.take n ∧ Reps Z F (ds.set i x) ((putF nm v fs).map (·.2))
  | l, [], ds, i, nm, x, v, n, nd, e, r, h1, h2, rx => by
    have := r.length
    simp at this
    subst this
    simp at h2
  | [], p :: fs, ds, i, nm, x, v, n, nd, e, r, h1, h2, rx => by simp at h1
  | g :: l, (a, b) :: fs, ds, i, nm, x, v, 0, nd, e, r, h1, h2, rx => by simp at e
  | g :: l, (a, b) :: fs, [], i, nm, x, v, n + 1, nd, e, r, h1, h2, rx => by simp at h2
  | g :: l, (a, b) :: fs, d :: ds, 0, nm, x, v, n + 1, nd, e, r, h1, h2, rx => by
    simp at e h1
    subst h1
    obtain ⟨w, r', e2, h3, h4⟩ := reps_cons_inv r
    simp at e2
    unfold putF
    rw [if_pos e.1]
    refine ⟨by simp [e], ?_⟩
    simp only [List.map_cons, List.set_cons_zero]
    exact reps_cons rx (by rw [e2.2]; exact h4)
  | g :: l, (a, b) :: fs, d :: ds, i + 1, nm, x, v, n + 1, nd, e, r, h1, h2, rx => by
    simp at e h1 h2
    obtain ⟨w, r', e2, h3, h4⟩ := reps_cons_inv r
    simp at e2
    have nd' := List.nodup_cons.mp nd
    have hne : ¬ a = nm := fun z => nd'.1 (by
      rw [← e.1, z]
      exact List.mem_of_getElem? h1)
    obtain ⟨h5, h6⟩ := putF_old (fs := fs) (n := n) nd'.2 e.2 (by rw [e2.2]; exact h4) h1 (by omega) rx
    unfold putF
    rw [if_neg hne]
    refine ⟨by simp [e.1, h5], ?_⟩
    simp only [List.map_cons, List.set_cons_succ]
    exact reps_cons (by rw [e2.1]; exact h3) h6
theorem putF_new : ∀ {fs : List (Str × V)} {nm : Str} {v : V}, nm ∉ fs.map (·.1) → putF nm v fs = fs ++ [(nm, v)]
  | [], nm, v, h => rfl
  | (a, b) :: fs, nm, v, h => by
    simp at h
    unfold putF
    rw [if_neg fun z => h.1 z.symm, putF_new (by simpa using h.2)]
    rfl
theorem ds_fld {pos' : Pos} (ho : PE X o (tE Z W f)) (he : PE X e (tE Z W g)) (hK : X.K = Z.K) (hc : ClsOk X.K Z.toZx c) (hn : NoAttr X.K (Z.cl c) nm) (hi : (Z.fl c)[i]? = some nm) (hfew : (Z.fl c).length < 1000) (hs : swapsWith e (some (.Attribute o nm pos')) pos.line X.env = pure false := by rfl) : PS X (.Assign [.Attribute o nm pos'] e pos) (tS Z W (sFldSet c i f g)) :=
  (ps_fld ho he hs).weak fun D σ H q => tE_imp (fun y H1 ⟨A, F, sl, ce, u, so, hs, ru, p⟩ => by
    refine ⟨A, F, sl, ce, so, hs, (PostS.exp so hs p).imp fun x H2 ⟨A1, F1, ce1, v, p1, e1, s1, r1, q1⟩ => ?_⟩
    have ru1 := ru.mono p1 e1
    split at q1
    · split at q1
      · rename_i k d _ _ c' ds hk
        by_cases hcc : c' = c
        · rw [if_pos hcc] at q1
          subst hcc
          obtain ⟨a, ha, rfl⟩ := r1
          obtain ⟨hF, dx, fs, h1, h2, h3⟩ := s1.ok _ _ _ ha hk
          have hlen : fs.length = ds.length := by rw [h3.length, List.length_map]
          have hfs : fs.length < 1000 := by
            have : (fs.map (·.1)).length ≤ (Z.fl c').length := by rw [h2]; simp; omega
            simp at this
            omega
          refine ⟨a, _, dx, fs, rfl, h1, hc.cls, hn, hfs, ?_⟩
          by_cases hl : i < ds.length
          · rw [if_pos hl] at q1
            obtain ⟨h5, h6⟩ := putF_old hc.nd h2 h3 hi hl ru1
            exact nxS (s1.write (c := .ins c' (ds.set i d)) ha hF ⟨hF, dx, _, upd_same, by simpa using h5, h6⟩) (hs.mono p1 e1) q1
          · rw [if_neg hl] at q1
            by_cases hl2 : i = ds.length
            · rw [if_pos hl2] at q1
              have hil : i < (Z.fl c').length := (List.getElem?_eq_some_iff.mp hi).1
              have hno : nm ∉ fs.map (·.1) := by
                rw [h2]
                intro z
                obtain ⟨j, hj⟩ := List.getElem?_of_mem z
                have hjl : j < ds.length := by
                  have := (List.getElem?_eq_some_iff.mp hj).1
                  simp at this
                  omega
                rw [List.getElem?_take_of_lt hjl] at hj
                have := (List.getElem?_inj (List.getElem?_eq_some_iff.mp hi).1 hc.nd).mp (hi.trans hj.symm)
                omega
              refine nxS (s1.write (c := .ins c' (ds ++ [d])) ha hF ⟨hF, dx, _, upd_same, ?_, ?_⟩) (hs.mono p1 e1) q1
              · rw [putF_new hno, List.map_append, h2]
                simp only [List.map_cons, List.map_nil, List.length_append, List.length_cons, List.length_nil]
                rw [List.take_add_one, ← hl2, hi]
                rfl
              · rw [putF_new hno, List.map_append]
                exact h3.append (reps_cons ru1 reps_nil)
            · rw [if_neg hl2] at q1
              exact q1.elim
        · rw [if_neg hcc] at q1
          exact q1.elim
      · exact q1.elim
    · exact q1.elim) (tS1 q)
end
theorem passLN {X : Cx} : Passes (L2N.CX X.prog X.w) X E0 := fun _ _ _ _ _ _ _ h => by
  obtain ⟨_, _, _, _, _, _, _, _, _, _, _, _, z⟩ := h
  exact z.elim
section
variable {X : Cx} {Z : Zy} {W : WX} {k : Nat} {fa pa : Addr} {fd : FuncData} {ps : List Str} {fh : DF} {nm : Str} {pos : Pos} {e : Expr} {f : DE} {c : Nat}
/-- a property's value; it raises nothing -/
def kProp (c : Nat) (fh : DF) (v : Val) : DE := fun _ ce => if isC c ce v then (match fh [v] ce with
  | .ok u ce' => .ok u ce'
  | _ => .stuck) else .stuck
theorem de_prop (he : PE X e (tE Z W f)) (hc : ClsOk X.K Z.toZx c) (hp : PropOf X.K (Z.cl c) nm pa fa) (F : FnOk X.prog X.w X.K X.mg X.base (L2N.CX X.prog X.w) k fa fd ps (spD Z.toZx fh 1)) (hr : Room (k + 1) X.A) (hb : Binds X.K fd ps [])
    (hab : attributeBase e nm X.env (eval e X.env) = eval e X.env := by rfl) : PE X (.Attribute e nm pos) (tE Z W (eUn (kProp c fh) f)) :=
  (pe_prop he hc.cls hp F hr hb .nil passLN hab).weak fun σ H Q q => tE_imp (fun x H1 ⟨A, F, sl, ce, v, so, hs, r, p⟩ => by
    unfold kProp at p
    by_cases hi : isC c ce v = true
    · rw [if_pos hi] at p
      obtain ⟨a, dx, fs', n', rfl, h1, h2⟩ := isC_rd so r hi
      refine ⟨a, dx, fs', rfl, h1, A, F, ce, [v], so, VReps.nohd (by simp [isC_plain hi]) ⟨_, _, rfl, r, rfl⟩, rfl, ?_⟩
      cases e : fh [v] ce with
      | ok u ce' => rw [e] at p; exact fun A' F' H' x pA eF so' r' => p A' F' H' x pA eF so' (vrep_z rfl r')
      | exc c ds ce' => rw [e] at p; exact p.elim
      | stuck => rw [e] at p; exact p.elim
    · rw [if_neg hi] at p
      exact p.elim) (tE1 q)
end
inductive Ty where
  | t (n : String) | c (n : Nat)
  deriving DecidableEq
def D.ty : D → Ty
  | .non => .t "NoneType" | .bl _ => .t "bool" | .int _ => .t "int" | .str _ => .t "str" | .tup _ => .t "tuple" | .lst _ => .t "list" | .wl _ => .t "list" | .ins c _ => .c c | .dct _ _ => .t "dict"
def tyVal (Z : Zx) : Ty → Value
  | .t n => .type n
  | .c n => .ref (Z.cl n)
/-- isinstance(e, T): tst tells for which types -/
def kIsi (tst : Ty → Option Bool) (v : Val) : DE := fun _ ce => match v with
  | .im (.wl _) => .stuck
  | .im (.dct _ _) => .stuck
  | .im d => match tst d.ty with
    | some b => .ok (.im (.bl b)) ce
    | none => .stuck
  | _ => .stuck
section
variable {X : Cx} {Z : Zy} {W : WX} {p p2 pos : Pos} {e : Expr} {f : DE} {x : Str} {cv : V} {u : Value} {tst : Ty → Option Bool}
/-- what isinstance asks of an own class -/
structure IsiC (K : PySem.W.Frag) (C : Addr) : Prop where
  cl : Cls K C
  ha : PySem.W.findIn K (.ref C) "__class__" = some (some (.builtin "object.__class__"))
  hn : PySem.W.specialIn K (.builtin "object.__class__") "__get__" = some (some (.builtin "getset_descriptor.__get__"))
  ht : PySem.W.takesIn K (.builtin "object.__class__") = some true
  hm : PySem.W.mroIn K C (.type "object") = some true
theorem d_tyx {F H : Hp} {d : D} {y : V} (so : Same F H) (r : Rep Z.toZx F d y) (hcl : ∀ c ds, d = .ins c ds → IsiC Z.K (Z.cl c)) (hnd : ∀ ks vs, d ≠ .dct ks vs) : TyX Z.K H y (tyVal Z.toZx d.ty) := by
  cases d with
  | non => unfold Rep at r; subst r; exact .base .non
  | bl b => unfold Rep at r; subst r; exact .base (.bl b)
  | int b => unfold Rep at r; subst r; exact .base (.int b)
  | str b => unfold Rep at r; subst r; exact .base (.str b)
  | tup ds =>
    unfold Rep at r
    obtain ⟨a, vs, rfl, h1, h2⟩ := r
    rcases same_seqT so h1 with (h | ⟨o, h⟩) | ⟨o, its, n, h3, h4, _⟩
    · exact .base (.tup h)
    · exact .fTuple h
    · exact .kTuple h3 h4
  | lst ds =>
    unfold Rep at r
    obtain ⟨a, vs, rfl, h1, h2⟩ := r
    exact .base (.lst (so _ _ h1))
  | dct ks vs => exact absurd rfl (hnd ks vs)
  | ins c ds =>
    unfold Rep at r
    obtain ⟨a, dx, fs, rfl, h1, h2⟩ := r
    have q := hcl c ds rfl
    exact .base (.ins (so _ _ h1) q.cl q.ha q.hn q.ht q.hm)
  | wl ds =>
    unfold Rep at r
    obtain ⟨a, vs, rfl, h1, h2⟩ := r
    rcases so.seq h1 with (h | ⟨o, h⟩) | ⟨o, its, n, h3, h4, _⟩
    · exact .base (.lst h)
    · exact .base (.frz h)
    · exact .kList h3 h4
theorem de_isi {T : Expr} (hT : PE X T (tC cv)) (hcv : ClsV cv u) (hK : X.K = Z.K) (hk : ∀ ty b, tst ty = some b → PySem.W.kitOne X.K (tyVal Z.toZx ty) u = some b) (hcl : ∀ c b, tst (.c c) = some b → IsiC X.K (Z.cl c)) (he : PE X e (tE Z W f)) (hm : X.mg "isinstance" = none)
    (hg : Gl X "isinstance" := by rfl) (hs : starEach [e, T] X.env = (false, eval e X.env) :: starEach [T] X.env := by rfl) (hs2 : starEach [T] X.env = (false, eval T X.env) :: starEach [] X.env := by rfl) (hpl : (backTo pos (starEach [T] X.env)).any (·.1) = false := by rfl) :
    PE X (.Call (.Name "isinstance" p) [e, T] [] pos) (tE Z W (eUn (kIsi tst) f)) :=
  (pe_callB call_isi hg hm (by decide +kernel) (pa_cons he (pa_cons hT pa_nil hs2) hs) (by decide) (by decide) hs hpl).weak fun σ H Q q => tE_imp (fun x H1 ⟨A, F, sl, ce, v, so, hs, r, p⟩ => by
    unfold kIsi at p
    show rIsi X.K [x, cv] H1 Q
    split at p
    · exact p.elim
    · exact p.elim
    · rename_i d _ hnd
      split at p
      · rename_i b hb
        exact ⟨x, cv, _, u, b, rfl, hcv, by rw [hK]; exact d_tyx so.sub r (fun c ds e => by subst e; rw [← hK]; exact hcl c b hb) (fun ks vs e => hnd ks vs (by rw [e])), hk _ b hb, fin_flat so p repB⟩
      · exact p.elim
    · exact p.elim) (tE1 q)
end
end ZZ
set_option Elab.async false
set_option linter.all false
set_option maxRecDepth 100000
namespace L2N
open PySem PySem.Spec PyProof.Rows L2
theorem pmk_oex {X : Cx} {CX : CXT} {x : Str} {e : Expr} {es : List Expr} {ta : TA} {p pos : Pos} {C fI : Addr} {k : Nat} {fd : FuncData} {ps : List Str} {sp : Sp} {ds : List Value} {dvs : List V} (T : OexC X.K C) (iC : PySem.W.findIn X.K (.ref C) "__init__" = some (some (.ref fI))) (tI : PySem.W.typeIn X.K (.ref fI) = some (.type "function"))
    (F1 : FnOk X.prog X.w X.K X.mg X.base CX k fI fd ps sp) (hr : Room (k + 1) X.A) (hb : Binds X.K fd ps ds) (hd : Vals dvs ds) (hx : Passes CX X (fun _ _ _ => False)) (hg : Gl X x) (hm : X.mg x = some (.ref C)) (ha : PA X (e :: es) ta)
    (hdb : (x == ("__debug__" : Str)) = false := by decide) (he : starEach (e :: es) X.env = (false, eval e X.env) :: starEach es X.env := by rfl) (hpl : (backTo pos (starEach es X.env)).any (·.1) = false := by rfl) :
    L2N.PMk X (.Call (.Name x p) (e :: es) [] pos) (tMkO C sp dvs ta) := by
  intro pins s σ H Q I h
  obtain ⟨nm, q, N, bs, bm, sn, sub, ab, col, dd, k0, k1, k2, k3, k5, hC, hbm⟩ := T.cls
  refine wpAny_Call_Name_kw (ld_glob I hg hm ?_ hdb)
  refine PySem.W.callWith_K (h₀ := X.base) I.ok.mod.kin T.kC (thn (ha.run pos pins s σ H _ I h) fun us s1 ⟨vs, H1, I1, r1, hz, q1⟩ => ⟨I1.kIn, ?_⟩) he hpl
  show wpAny _ _ (call (.ref C) us) _ _ _
  obtain ⟨hp, g, dr, tk, os⟩ := s1
  have hsz : hp.objs.size ≤ hp.objs.size + 1 := Nat.le_succ _
  have hn : H1 (hp.objs.size + 1) = none := I1.hok.fresh hsz
  have hq := q1 (hp.objs.size + 1) hn
  have kk : ∀ b o, hp.get? b = some o → ((hp.push (PySem.W.kdv_tup us)).push (PySem.HandSPX.excO C hp.objs.size)).get? b = some o := fun b o e => Heap.get?_push_of_some _ (Heap.get?_push_of_some _ e)
  have hget : ((hp.push (PySem.W.kdv_tup us)).push (PySem.HandSPX.excO C hp.objs.size)).get? (hp.objs.size + 1) = some (PySem.HandSPX.excO C hp.objs.size) := by heap_get
  have I2 : Inv X pins σ (upd H1 (hp.objs.size + 1) (exo (hp.objs.size + 1) C none)) ⟨(hp.push (PySem.W.kdv_tup us)).push (PySem.HandSPX.excO C hp.objs.size), g, dr, tk, os⟩ :=
    I1.laid (t' := tk) (a := hp.objs.size + 1) (o := exo (hp.objs.size + 1) C none) (h' := (hp.push (PySem.W.kdv_tup us)).push (PySem.HandSPX.excO C hp.objs.size)) kk hsz (exo_ok hget)
  have r2 : Vals (V.ref (hp.objs.size + 1) :: (vs ++ dvs)) (Value.ref (hp.objs.size + 1) :: (us ++ ds)) := .cons rfl (r1.append hd)
  have hl : (Value.ref (hp.objs.size + 1) :: us ++ ds).length = ps.length := by
    have e := r2.length
    rw [F1.len _ _ _ _ hq] at e
    exact e.symm
  have hus : us.length ≤ sizeLine := by
    rw [← Paired.length r1, sizeLine_eq]
    omega
  refine wpAny_call (PySem.HandSPX.call_own F.excBase_ValueError (fun Y => PySem.HandSPX.refsVE_contains Y bm hbm) (I1.kIn _ _ hC) (PySem.W.looks_findIn I1.kIn iC) (fun self => PySem.W.bind_fn I1.kIn self tI) hus
    (codeAny_mono (F1.run _ X.stack _ _ ⟨Value.ref (hp.objs.size + 1) :: us, []⟩ (Value.ref (hp.objs.size + 1) :: (us ++ ds)) _ _ (fun _ _ _ => False) (hr.make C us []) (I2.env0.make C us []) (hb _ (Value.ref (hp.objs.size + 1) :: us) I2.kIn hl) r2 hq) fun r s' hq' => ?_))
  cases r with
  | error er => exact hx pins σ _ _ er s' I2 hq'
  | ok fl =>
    cases fl with
    | ret u =>
      obtain ⟨v, H2, os2, bare2, un2, hok2, rv, ev, d, fs, ea, ed, hd1, q2⟩ := hq'
      subst ev
      obtain ⟨h2, g2, d2, t2, os'⟩ := s'
      refine ⟨rv, ?_⟩
      obtain ⟨t0, G, J, kG, ge, hoe, na⟩ := mk_end0 (d2 := d2) (t2 := t2) I1 hsz kk un2 hok2 os2 bare2 ea ed hd1
      exact ⟨_, _, _, ⟨G, g2, d2, t2, os'⟩, _, .ref C, some d, rfl, J, kG, ge, hoe, ⟨rfl, rfl, fun vs e => by cases e; rfl⟩, rfl, rfl, na, rfl, bare2, raises_own T.exC T.tyC, q2⟩
    | next => exact False.elim hq'
    | brk => exact False.elim hq'
    | cont => exact False.elim hq'
end L2N
namespace ZZ
open PySem PySem.Spec L2
def spI1 (K : PySem.W.Frag) (f : Str) : Sp := fun vs H Q _ => ∃ a C v, vs = [.ref a, v] ∧ OexC K C ∧ PySem.W.findIn K (.ref C) f = some none ∧ H a = some (exo a C none) ∧
  ∀ dx, H dx = none → dx ≠ a → Q .non (upd (upd H dx (exd dx [(f, v)])) a (exo a C (some dx)))
def sRaiseT (c : Nat) : DSt := fun sl ce => .exc c [] sl ce
def sArgs : List DE → (List Val → DSt) → DSt
  | [], k => k []
  | f :: fs, k => sExp f fun v => sArgs fs fun vs => k (v :: vs)
/-- C(e, ..): the last argument's field stands first in the error's dict -/
def sRaise (c : Nat) (fs : List DE) : DSt := sArgs fs fun vs sl ce => match ims vs with
  | some ds => .exc c ds.reverse sl ce
  | none => .stuck
theorem tSN {Z : Zy} {W : WX} {D : Ends} {σ : L2.St} {sl : Sl} : ∀ {fs : List DE} {k : List Val → DSt} {A : List Addr} {F H : Hp} {ce : List Cell}, SO Z.toZx A F ce H → SL Z A F sl σ → PostS Z A F W D (sArgs fs k sl ce) →
    tArgs Z W fs σ H fun xs H1 => ∃ A1 F1 ce1 vs, A <+: A1 ∧ Same F F1 ∧ SO Z.toZx A1 F1 ce1 H1 ∧ VReps Z A1 F1 vs xs ∧ vs.length = fs.length ∧ PostS Z A1 F1 W D (k vs sl ce1)
  | [], k, A, F, H, ce, so, hs, p => ⟨A, F, ce, [], List.prefix_refl _, Same.refl _, so, rfl, rfl, p⟩
  | f :: fs, k, A, F, H, ce, so, hs, p => ⟨A, F, sl, ce, so, hs, (PostS.exp so hs p).imp fun x H1 ⟨A1, F1, ce1, v, p1, e1, s1, r1, q1⟩ =>
      tArgs_imp (fun xs H2 ⟨A2, F2, ce2, vs, p2, e2, s2, r2, l2, q2⟩ => ⟨A2, F2, ce2, v :: vs, p1.trans p2, e1.trans e2, s2, ⟨x, xs, rfl, r1.mono p2 e2, r2⟩, by simp [l2], q2⟩) (tSN s1 (hs.mono p1 e1) q1)⟩
/-- a class whose errors bear a text -/
structure ExT (K : PySem.W.Frag) (C : Addr) : Prop where
  q : PySem.W.excIn K C [.type "ValueError", .type "Exception", .type "BaseException", .type "object"] "ValueError.__new__" = true
  kC : PySem.W.keepIn K (.ref C) = true
  exC : PySem.W.subIn K (.ref C) (.type "BaseException") = some true
  tyC : PySem.W.typeIn K (.ref C) = some (.type "type")
section
variable {X : Cx} {Z : Zy} {W : WX} {p p2 pos pos2 : Pos} {x m : Str} {c j : Nat} {e e2 : Expr} {f g : DE}
theorem ds_raiseT (hc : X.calm = true) (tk : L2N.Takes X W) (T : ExT X.K (Z.cl c)) (hm : X.mg x = some (.ref (Z.cl c))) (hg : Gl X x := by rfl) (hdb : (x == ("__debug__" : Str)) = false := by decide) :
    PS X (.Raise (some (.Call (.Name x p) [.Constant (.str m) j p2] [] pos)) none pos2) (tS Z W (sRaiseT c)) :=
  (L2N.ps_raise hc tk (L2N.pmk_own PySem.F.excBase_ValueError T.q hm T.kC (raises_own T.exC T.tyC) hg hdb)).weak fun D σ H ⟨A, F, sl, ce, so, hs, p⟩ => p A F H σ none (List.prefix_refl _) (Same.refl _) so hs (.inl ⟨rfl, rfl⟩)
theorem upd_swap {H : Hp} {a dx : Addr} {o o1 o2 o3 : HO} (h1 : H a = none) (h2 : dx ≠ a) : upd (del (upd (upd (upd H a o1) dx o2) a o) a) dx o3 = upd H dx o3 := by
  funext b
  unfold upd del
  by_cases hb : b = dx
  · simp [hb]
  · by_cases ha : b = a
    · simp [hb, ha, h1, Ne.symm h2]
    · simp [hb, ha]
theorem ds_raise1 {k : Nat} {fI : Addr} {fd : FuncData} {ps : List Str} {nm : Str} (hK : X.K = Z.K) (hc : X.calm = true) (tk : L2N.Takes X W) (T : OexC X.K (Z.cl c)) (iC : PySem.W.findIn X.K (.ref (Z.cl c)) "__init__" = some (some (.ref fI))) (tI : PySem.W.typeIn X.K (.ref fI) = some (.type "function"))
    (nf : PySem.W.findIn X.K (.ref (Z.cl c)) nm = some none) (hfl : Z.fl c = [nm]) (F1 : FnOk X.prog X.w X.K X.mg X.base CX0 k fI fd ps (spI1 X.K nm)) (hr : Room (k + 1) X.A) (hb : Binds X.K fd ps []) (hm : X.mg x = some (.ref (Z.cl c))) (ha : PA X [e] (tArgs Z W [f]))
    (hg : Gl X x := by rfl) (hdb : (x == ("__debug__" : Str)) = false := by decide) (he : starEach [e] X.env = (false, eval e X.env) :: starEach [] X.env := by rfl) (hpl : (backTo pos (starEach [] X.env)).any (·.1) = false := by rfl) :
    PS X (.Raise (some (.Call (.Name x p) [e] [] pos)) none pos2) (tS Z W (sRaise c [f])) :=
  (L2N.ps_raise hc tk (L2N.pmk_oex T iC tI F1 hr hb .nil pass0 hg hm ha hdb he hpl)).weak fun D σ H ⟨A, F, sl, ce, so, hs, p⟩ => by
    refine tArgs_imp (fun xs H1 ⟨A1, F1, ce1, vs, p1, e1, s1, r1, l1, q1⟩ => ?_) (tSN so hs p)
    have hl := r1.length
    have hx : xs.length = 1 := by rw [← hl, l1]; rfl
    refine ⟨by omega, fun a ha => ?_⟩
    obtain ⟨y, rfl⟩ := List.length_eq_one_iff.mp hx
    cases e2 : ims vs with
    | none => rw [e2] at q1; exact q1.elim
    | some ds =>
      rw [e2] at q1
      have rd := ims_rd r1 e2
      refine ⟨a, Z.cl c, y, rfl, T, nf, upd_same, fun dx h1 h2 => ⟨rfl, dx, [(nm, y)], upd_same, ?_, ?_, ?_⟩⟩
      · rw [upd_ne h2, upd_same]
      · rw [upd_ne h2] at h1
        exact h1
      · rw [upd_ne h2] at h1
        rw [upd_swap ha h2]
        refine q1 A1 (upd F1 dx (.xd [(nm, y)])) _ σ (some dx) (List.prefix_refl _) (same_up (s1.fnone h1)) (s1.new h1) ((hs.mono p1 e1).mono (List.prefix_refl _) (same_up (s1.fnone h1))) (.inr ⟨dx, _, rfl, upd_same, by rw [hfl]; rfl, ?_⟩)
        exact (rd.mono (same_up (s1.fnone h1))).reverse
end
/-- a slot that holds the exception in hand is forgotten -/
def clean (sl : Sl) : Sl := sl.map fun o => match o with
  | some (.exn _ _) => none
  | o => o
abbrev Zy.hdl (Z : Zy) (a : Addr) (c : Nat) (d : Option Addr) : Zy := ⟨Z.toZx, some (a, c, d)⟩
def setO {α : Type} (i : Option Nat) (l : List (Option α)) : List (Option α) := match i with
  | some i => l.set i none
  | none => l
/-- behind a suite -/
def offD (i : Option Nat) : Out → Out
  | .nx sl ce => .nx (clean (setO i sl)) ce
  | .bk sl ce => .bk (clean (setO i sl)) ce
  | .ct sl ce => .ct (clean (setO i sl)) ce
  | .rt v ce => if plainV v then .rt v ce else .stuck
  | _ => .stuck
/-- nE classes of errors; sub: which of them the clause names -/
def sTry (nE : Nat) (sub : Nat → Bool) (i : Option Nat) (fb fs : DSt) : DSt := fun sl ce => match fb sl ce with
  | .exc c ds sl1 ce1 => if c < nE then (if sub c then offD i (fs (match i with
    | some i => sl1.set i (some (.exn c ds))
    | none => sl1) ce1) else .exc c ds sl1 ce1) else .stuck
  | o => o
section
variable {Z : Zy} {A A' : List Addr} {F F' H : Hp} {ce : List Cell} {sl : Sl} {σ : L2.St} {W : WX}
theorem SL.off {a c d} (hs : SL (Z.hdl a c d) A F sl σ) (hz : Z.hd = none) : SL Z A F (clean sl) σ := by
  refine ⟨by unfold clean; rw [List.length_map]; exact hs.len, fun i v q => ?_⟩
  unfold clean at q
  rw [List.getElem?_map] at q
  cases e : sl[i]? with
  | none => rw [e] at q; cases q
  | some o =>
    rw [e] at q
    cases o with
    | none => cases q
    | some u =>
      obtain ⟨x, h1, h2⟩ := hs.is i u e
      cases u with
      | im y => cases q; exact ⟨x, h1, h2⟩
      | cell k => cases q; exact ⟨x, h1, h2⟩
      | exn c ds => cases q
theorem SL.on {a c d} (hs : SL Z A F sl σ) (hz : Z.hd = none) : SL (Z.hdl a c d) A F sl σ := by
  refine ⟨hs.len, fun i v q => ?_⟩
  obtain ⟨x, h1, h2⟩ := hs.is i v q
  refine ⟨x, h1, ?_⟩
  cases v with
  | im y => exact h2
  | cell k => exact h2
  | exn c ds => exact h2.elim (fun ⟨_, a, dx, h, _⟩ => by rw [hz] at h; cases h) .inr
end
section
variable {X : Cx} {Z : Zy} {Wout : WX} {x n : Str} {cv : Value} {i nE : Nat} {sub : Nat → Bool} {body suite : List Stmt} {b₀ : Stmt} {np pos pos' : Pos} {fb fs : DSt}
theorem suite_ok {D D' : Ends} {a : Addr} {c : Nat} {d : Option Addr} {io : Option Nat} {A F} {o : Out} (hz : Z.hd = none) (p : PostS Z A F Wout D (offD io o))
    (h1 : ∀ σ H, D.nx (setO io σ) H → D'.nx σ H) (h2 : ∀ σ H, D.bk (setO io σ) H → D'.bk σ H) (h3 : ∀ σ H, D.ct (setO io σ) H → D'.ct σ H) (h4 : D'.rt = D.rt) : PostS (Z.hdl a c d) A F WF D' o := by
  have key : ∀ {A' F'} {sl : Sl} {σ : L2.St}, SL (Z.hdl a c d) A' F' sl σ → SL Z A' F' (clean (setO io sl)) (setO io σ) := by
    intro A' F' sl σ hs
    cases io with
    | none => exact hs.off hz
    | some i => exact (SL.gone hs).off hz
  cases o with
  | nx sl ce => exact fun A' F' H' σ' pA eF so hs => h1 _ _ (p A' F' H' _ pA eF so (key hs))
  | bk sl ce => exact fun A' F' H' σ' pA eF so hs => h2 _ _ (p A' F' H' _ pA eF so (key hs))
  | ct sl ce => exact fun A' F' H' σ' pA eF so hs => h3 _ _ (p A' F' H' _ pA eF so (key hs))
  | rt v ce =>
    simp only [offD] at p
    by_cases hp : plainV v = true
    · rw [if_pos hp] at p
      intro A' F' H' x pA eF so r
      rw [h4]
      refine p A' F' H' x pA eF so ?_
      cases v with
      | im y => exact r
      | cell k => exact r
      | exn c ds => exact r.elim (fun h => absurd (of_decide_eq_true hp) (by omega)) .inr
    · rw [if_neg hp] at p
      exact p.elim
  | exc c ds sl ce => exact p.elim
  | stuck => exact p.elim
theorem ds_try_as (hs : X.stack = X.env :: X.outer) (hf : X.env.frame = some X.env.locals) (hN : X.N.Nodup) (hz : Z.hd = none) (hc : Names X x cv) (tk : L2N.Takes X Wout) (hexm : ∀ c, c < nE → PySem.W.exmOne X.K (.ref (Z.cl c)) cv = some (sub c))
    (hb : ∀ (W : WX) (pn : List (Addr × Obj)) (xe : Value → Shared → Prop), L2N.Takes (X.tr pn xe) W → PassesOwn (model X.prog X.w) X.A X.env xe → PSs (X.tr pn xe) body (tS Z W fb))
    (hsu : ∀ (a : Addr) (oe : Obj) (c : Nat) (d : Option Addr) (pn : List (Addr × Obj)), c < nE → L2N.Zn (.ref (Z.cl c)) d oe → (∃ vs, oe.data = .fields vs) → PSs (X.suite a ((a, oe) :: pn)) (b₀ :: suite) (tS (Z.hdl a c d) WF fs))
    (hi : X.N[i]? = some n := by rfl) (hln : X.env.kindOf n = some .local := by rfl) (hE : nE ≤ 1000 := by decide) :
    PS X (.Try body [.ExceptHandler (some (.Name x np)) (some n) (b₀ :: suite) pos'] [] [] pos) (tS Z Wout (sTry nE sub (some i) fb fs)) := by
  refine (L2N.ps_try_as (ts := fun a cls d => fun D σ H => ∃ c, c < nE ∧ cls = .ref (Z.cl c) ∧ tS (Z.hdl a c d) WF fs D σ H) hs hf hN hi hln hc tk hb fun a oe cls d pn hzn hfl => ⟨fun pins s σ H D I h => ?_⟩).weak fun D σ H ⟨A, F, sl, ce, so, hs, p⟩ => ⟨A, F, sl, ce, so, hs, ?_⟩
  · obtain ⟨c, hc, rfl, h⟩ := h
    exact (hsu a oe c d pn hc hzn hfl).run pins s σ H D I h
  · unfold sTry at p
    cases e : fb sl ce with
    | nx sl ce => rw [e] at p; exact p
    | bk sl ce => rw [e] at p; exact p
    | ct sl ce => rw [e] at p; exact p
    | rt v ce => rw [e] at p; exact p
    | stuck => rw [e] at p; exact p
    | exc c ds sl1 ce1 =>
      rw [e] at p
      intro A1 F1 H1 σ1 dx pA eF so1 hs1 xo
      dsimp only at p
      by_cases hcn : c < nE
      · rw [if_pos hcn] at p
        refine ⟨sub c, hexm c hcn, fun hb a ha => ?_, fun hb => ?_⟩
        · rw [if_pos hb] at p
          refine ⟨c, hcn, rfl, A1, F1, _, ce1, so1, ((hs1.on (a := a) (c := c) (d := dx) hz).set (v := .exn c ds) (x := .ref a) (.inl ⟨Nat.lt_of_lt_of_le hcn hE, a, dx, rfl, rfl, xo⟩)), ?_⟩
          exact suite_ok hz (p.mono pA eF) (fun _ _ h => h) (fun _ _ h => h) (fun _ _ h => h) rfl
        · rw [hb] at p
          exact p A1 F1 H1 σ1 dx pA eF so1 hs1 xo
      · rw [if_neg hcn] at p
        exact p.elim
end
def kXf (cs : List Nat) (i : Nat) (v : Val) : DE := fun _ ce => match v with
  | .exn c ds => if c < 1000 then (if c ∈ cs then (match ds[i]? with
    | some y => .ok (.im y) ce
    | none => .stuck) else .stuck) else .stuck
  | _ => .stuck
def kIsE (tst : Nat → Option Bool) (v : Val) : DE := fun _ ce => match v with
  | .exn c _ => if c < 1000 then (match tst c with
    | some b => .ok (.im (.bl b)) ce
    | none => .stuck) else .stuck
  | _ => .stuck
section
variable {X : Cx} {Z : Zy} {W : WX} {a : Addr} {oe : Obj} {c i : Nat} {d : Option Addr} {pn : List (Addr × Obj)} {e : Expr} {f : DE} {pos p : Pos} {nm : Str} {cs : List Nat}
theorem de_xf (hT : ∀ c ∈ cs, XfC X.K (Z.cl c) ∧ PySem.W.findIn X.K (.ref (Z.cl c)) nm = some none ∧ (Z.fl c)[i]? = some nm ∧ (Z.fl c).Nodup) (hz : L2N.Zn (.ref (Z.cl c)) d oe) (hf : ∃ vs, oe.data = .fields vs) (he : PE (X.suite a ((a, oe) :: pn)) e (tE (Z.hdl a c d) W f)) (hb : attributeBase e nm X.env (eval e X.env) = eval e X.env := by rfl) :
    PE (X.suite a ((a, oe) :: pn)) (.Attribute e nm pos) (tE (Z.hdl a c d) W (eUn (kXf cs i) f)) := by
  by_cases hc : c ∈ cs
  · obtain ⟨T, no, hi, nd⟩ := hT c hc
    refine (pe_xf T no hz.zc hf he hb).weak fun σ H Q q => tE_imp (fun x H1 ⟨A, F, sl, ce, v, so, hs, r, p⟩ => ?_) (tE1 q)
    unfold kXf at p
    split at p
    · rename_i c' ds
      rcases r with ⟨_, a', dx, h1, rfl, xo⟩ | ⟨hge, _⟩
      case inr => rw [if_neg (by omega)] at p; exact p.elim
      cases h1
      by_cases h9 : c < 1000
      case neg => rw [if_neg h9] at p; exact p.elim
      rw [if_pos h9, if_pos hc] at p
      split at p
      · rename_i y hy
        rcases xo with ⟨rfl, _⟩ | ⟨dd, fs, rfl, h2, h3, h4⟩
        · simp at hy
        · obtain ⟨u, h5, h6⟩ := lookup_ix (n := (Z.fl c).length) nd (by rw [h3, List.take_length]) h4 hi hy
          exact ⟨rfl, rfl, dd, fs, u, rfl, so.sub _ _ h2, h5, fin_flat so p h6⟩
      · exact p.elim
    · exact p.elim
  · refine ⟨fun pins s σ H Q I q => attr_of hb (thn (he.run pins s σ H (fun _ _ => False) I (tE_imp (fun x H1 ⟨A, F, sl, ce, v, so, hs, r, p⟩ => ?_) (tE1 q))) fun u s1 ⟨x, H1, I1, rx, z⟩ => z.elim)⟩
    unfold kXf at p
    split at p
    · rename_i c' ds
      rcases r with ⟨_, a', dx, h1, rfl, xo⟩ | ⟨hge, _⟩
      case inr => rw [if_neg (by omega)] at p; exact p.elim
      cases h1
      by_cases h9 : c < 1000
      case neg => rw [if_neg h9] at p; exact p.elim
      rw [if_pos h9, if_neg hc] at p
      exact p.elim
    · exact p.elim
/-- isinstance(e, T), e the exception in hand -/
theorem call_isX {C : Addr} (hga : PySem.W.findIn X.K (.ref C) "__getattribute__" = some (some (.builtin "BaseException.__getattribute__"))) (hgt : PySem.W.findIn X.K (.ref C) "__getattr__" = some none) (hsub : PySem.W.subIn X.K (.ref C) (.type "BaseException") = some true) (hd : PySem.W.hasDictIn X.K C = true)
    (ha : PySem.W.findIn X.K (.ref C) "__class__" = some (some (.builtin "object.__class__"))) (hn : PySem.W.specialIn X.K (.builtin "object.__class__") "__get__" = some (some (.builtin "getset_descriptor.__get__")))
    (htk : PySem.W.takesIn X.K (.builtin "object.__class__") = some true) (hm : PySem.W.mroIn X.K C (.type "object") = some true) (hz : L2N.Zn (.ref C) d oe) (hf : ∃ vs, oe.data = .fields vs) :
    CallR (X.suite a ((a, oe) :: pn)) (.builtin "isinstance") (fun xs H Q => ∃ (c : V) (cv : Value) (b : Bool), xs = [.ref a, c] ∧ (∀ u, RelV c u → u = cv) ∧ PySem.W.kitOne X.K (.ref C) cv = some b ∧ (d = none ∨ ∃ dd fs, d = some dd ∧ H dd = some (.xd fs)) ∧ Q (.bl b) H) := by
  intro pins s σ H xs us Q I r h
  obtain ⟨c, cv, b, rfl, hcv, e, hdd, q⟩ := h
  cases r with
  | cons rx rr =>
    cases rr with
    | cons rt rr =>
      cases rr
      cases rx
      have ec := hcv _ rt
      subst ec
      obtain ⟨hget, _⟩ := I.pin (a, oe) (List.mem_append.mpr (.inl List.mem_cons_self))
      obtain ⟨vs, hv⟩ := hf
      have hcl : (PySem.W.clsIn X.K C).isSome = true := by
        obtain ⟨cd, hc, _⟩ := PySem.W.any_some hd
        rw [hc]
        rfl
      have key : ∀ od, PySem.W.InstAt s.heap a oe C od → wpAny (model X.prog X.w) (X.suite a ((a, oe) :: pn)).A (call (.builtin "isinstance") [.ref a, _]) (EP (X.suite a ((a, oe) :: pn)) pins σ Q) (fun _ _ => False) s := fun od J =>
        PySem.W.kia_one (PySem.W.kitx_exc (od := od) hcl hga hgt hsub ha hn htk hm) I.kIn J e (fun z => nomatch z) fun tk => ⟨.bl b, H, I.kept (t' := tk) fun _ _ z => z, rfl, q⟩
      rcases hdd with rfl | ⟨dd, fs, rfl, hH⟩
      · refine key none ?_
        refine ⟨hget, hz.1, by unfold PySem.W.notCls; rw [hv] <;> rfl, by rw [hz.2.1]; trivial⟩
      · obtain ⟨mA, hns, hr⟩ : ObjOk X.prog X.w H s.heap dd (.xd fs) := I.hok dd _ hH
        obtain ⟨od, ho, hl⟩ := lookIn_ns hns
        exact key (some od) ⟨hget, hz.1, by unfold PySem.W.notCls; rw [hv] <;> rfl, by rw [hz.2.1]; exact ho⟩
end
end ZZ
set_option Elab.async false
set_option linter.all false
set_option maxRecDepth 100000
namespace ZZ
open PySem PySem.Spec L2
/-- a def of the text that keeps its promise -/
structure DOk (P : Program) (w : World) (K : PySem.W.Frag) (mg : Str → Option Value) (base : Heap) (k : Nat) (a : Addr) (ps : List Str) (sp : Sp) : Prop where
  ex : ∃ fd, FnOk P w K mg base (L2N.CX P w) k a fd ps sp ∧ Binds K fd ps []
  kp : PySem.W.keepIn K (.ref a) = true
/-- .. called where an exception is handled -/
structure DOkH (P : Program) (w : World) (K : PySem.W.Frag) (mg : Str → Option Value) (base : Heap) (k : Nat) (a : Addr) (ps : List Str) (sp : Sp) : Prop where
  ex : ∃ fd, L2H.FnH P w K mg base (L2N.CX P w) k a fd ps sp ∧ Binds K fd ps []
  kp : PySem.W.keepIn K (.ref a) = true
/-- an exception's __init__ -/
structure IOk (P : Program) (w : World) (K : PySem.W.Frag) (mg : Str → Option Value) (base : Heap) (a : Addr) (ps : List Str) (sp : Sp) : Prop where
  ex : ∃ fd, FnOk P w K mg base CX0 1 a fd ps sp ∧ Binds K fd ps []
section
variable {X : Cx} {Z : Zy} {W : WX} {k n : Nat} {fa : Addr} {ps : List Str} {fh : DF} {x m nm : Str} {p pos pos2 apos : Pos} {e o : Expr} {es : List Expr} {f : DE} {fs : List DE} {c nf : Nat}
theorem de_callD (G : DOk X.prog X.w X.K X.mg X.base k fa ps (spD Z.toZx fh n)) (hr : Room k X.A) (hm : X.mg x = some (.ref fa)) (tw : TW X W) (ha : PA X (e :: es) (tArgs Z W fs))
    (hg : Gl X x := by rfl) (hl : fs.length = n := by rfl) (hdb : (x == ("__debug__" : Str)) = false := by decide) (he : starEach (e :: es) X.env = (false, eval e X.env) :: starEach es X.env := by rfl) (hpl : (backTo pos (starEach es X.env)).any (·.1) = false := by rfl) :
    PE X (.Call (.Name x p) (e :: es) [] pos) (tE Z W (eArgs fs (kCall fh))) := by
  obtain ⟨fd, F, b⟩ := G.ex
  exact de_call F hr hm G.kp b tw ha hg hl hdb he hpl
theorem de_methD {pl : Sem Bool} (he : PE X o (tE Z W f)) (hc : ClsOk X.K Z.toZx c) (hmt : Meth X.K (Z.cl c) m fa) (hno : m ∉ Z.fl c) (G : DOk X.prog X.w X.K X.mg X.base k fa ps (spD Z.toZx fh (n + 1))) (hr : Room k X.A) (tw : TW X W) (ha : PA X (e :: es) (tArgs Z W fs))
    (hl : fs.length = n := by rfl) (hst : starEach (e :: es) X.env = (false, eval e X.env) :: starEach es X.env := by rfl) (hpl : (backTo pos (starEach es X.env)).any (·.1) = false := by rfl)
    (ht : eval (.Call (.Attribute o m apos) (e :: es) [] pos) X.env = (do
      let ov ← eval o X.env
      standAt apos.atName
      let (f, first) ← holding [ov] (getMethod ov m pl)
      callWith pos f first (backTo pos (starEach (e :: es) X.env)) (backToKw pos (keywordEach [] X.env))) := by rfl) :
    PE X (.Call (.Attribute o m apos) (e :: es) [] pos) (tE Z W (eMth (isC c) (kMeth fh) f fs)) := by
  obtain ⟨fd, F, b⟩ := G.ex
  exact de_meth (pl := pl) he hc hmt hno F hr b tw ha hl hst hpl ht
theorem de_methD0 {pl : Sem Bool} (he : PE X o (tE Z W f)) (hc : ClsOk X.K Z.toZx c) (hmt : Meth X.K (Z.cl c) m fa) (hno : m ∉ Z.fl c) (G : DOk X.prog X.w X.K X.mg X.base k fa ps (spD Z.toZx fh 1)) (hr : Room k X.A) (tw : TW X W)
    (ht : eval (.Call (.Attribute o m apos) [] [] pos) X.env = (do
      let ov ← eval o X.env
      standAt apos.atName
      let (f, first) ← holding [ov] (getMethod ov m pl)
      callWith pos f first (backTo pos (starEach [] X.env)) (backToKw pos (keywordEach [] X.env))) := by rfl) :
    PE X (.Call (.Attribute o m apos) [] [] pos) (tE Z W (eMth (isC c) (kMeth fh) f [])) := by
  obtain ⟨fd, F, b⟩ := G.ex
  exact de_meth0 (pl := pl) he hc hmt hno F hr b tw ht
theorem de_makeD (M : Mk X.K (Z.cl c) fa) (G : DOk X.prog X.w X.K X.mg X.base k fa ps (spD Z.toZx fh (n + 1))) (hr : Room (k + 1) X.A) (hm : X.mg x = some (.ref (Z.cl c))) (tw : TW X W) (ha : PA X (e :: es) (tArgs Z W fs)) (hfl : (Z.fl c).length = nf)
    (hg : Gl X x := by rfl) (hl : fs.length = n := by rfl) (hdb : (x == ("__debug__" : Str)) = false := by decide) (he : starEach (e :: es) X.env = (false, eval e X.env) :: starEach es X.env := by rfl) (hpl : (backTo pos (starEach es X.env)).any (·.1) = false := by rfl) :
    PE X (.Call (.Name x p) (e :: es) [] pos) (tE Z W (eArgs fs (kMake c nf fh))) := by
  obtain ⟨fd, F, b⟩ := G.ex
  exact de_make M F hr hm b tw ha hfl hg hl hdb he hpl
theorem de_propD {pa : Addr} (he : PE X e (tE Z W f)) (hc : ClsOk X.K Z.toZx c) (hp : PropOf X.K (Z.cl c) nm pa fa) (G : DOk X.prog X.w X.K X.mg X.base k fa ps (spD Z.toZx fh 1)) (hr : Room (k + 1) X.A)
    (hab : attributeBase e nm X.env (eval e X.env) = eval e X.env := by rfl) : PE X (.Attribute e nm pos) (tE Z W (eUn (kProp c fh) f)) := by
  obtain ⟨fd, F, b⟩ := G.ex
  exact de_prop he hc hp F hr b hab
/-- an error's class with one field -/
structure Ex1 (P : Program) (w : World) (K : PySem.W.Frag) (mg : Str → Option Value) (base : Heap) (Z : Zx) (c : Nat) (nm : Str) (fI : Addr) (ps : List Str) : Prop where
  o : OexC K (Z.cl c)
  i : PySem.W.findIn K (.ref (Z.cl c)) "__init__" = some (some (.ref fI))
  t : PySem.W.typeIn K (.ref fI) = some (.type "function")
  n : PySem.W.findIn K (.ref (Z.cl c)) nm = some none
  f : Z.fl c = [nm]
  g : IOk P w K mg base fI ps (spI1 K nm)
theorem ds_raise1D {fI : Addr} (hK : X.K = Z.K) (hc : X.calm = true) (tk : L2N.Takes X W) (E1 : Ex1 X.prog X.w X.K X.mg X.base Z.toZx c nm fI ps) (hr : Room 2 X.A) (hm : X.mg x = some (.ref (Z.cl c))) (ha : PA X [e] (tArgs Z W [f]))
    (hg : Gl X x := by rfl) (hdb : (x == ("__debug__" : Str)) = false := by decide) (he : starEach [e] X.env = (false, eval e X.env) :: starEach [] X.env := by rfl) (hpl : (backTo pos (starEach [] X.env)).any (·.1) = false := by rfl) :
    PS X (.Raise (some (.Call (.Name x p) [e] [] pos)) none pos2) (tS Z W (sRaise c [f])) := by
  obtain ⟨fd, F, b⟩ := E1.g.ex
  exact ds_raise1 hK hc tk E1.o E1.i E1.t E1.n E1.f F hr b hm ha hg hdb he hpl
end
def kNeg (v : Val) : DE := fun _ ce => match v with
  | .im (.int i) => .ok (.im (.int (-i))) ce
  | _ => .stuck
def asStrs : List D → Option (List Str)
  | [] => some []
  | .str s :: ds => (asStrs ds).map (s :: ·)
  | _ :: _ => none
def kRevV (v : Val) : DE := fun _ ce => match asL ce v with
  | some ds => .ok (.im (.lst ds.reverse)) ce
  | none => .stuck
section
variable {X : Cx} {Z : Zy} {W : WX} {e o i : Expr} {f g h : DE} {pos apos cpos p1 p2 p3 : Pos}
theorem de_neg (he : PE X e (tE Z W f)) : PE X (.UnaryOp .USub e pos) (tE Z W (eUn kNeg f)) := (pe_un un_neg he).weak fun σ H Q q => tE_imp (fun x H1 ⟨A, F, sl, ce, v, so, hs, r, p⟩ => by
  unfold kNeg at p
  split at p
  · exact ⟨_, rep_int r, fin_flat so p repI⟩
  · exact p.elim) (tE1 q)
theorem de_revL {k : Nat} {pos4 : Pos} (hK : X.K = Z.K) (he : PE X e (tE Z W f)) : PE X (.Subscript e (.Slice none none (some (.UnaryOp .USub (.Constant (.int 1) k p1) p2)) p3) pos4) (tE Z W (eUn kRevV f)) := (pe_revL he).weak fun σ H Q q => tE_imp (fun x H1 ⟨A, F, sl, ce, v, so, hs, r, p⟩ => by
  unfold kRevV at p
  split at p
  · rename_i ds e1
    obtain ⟨l, ws, rfl, h1, h2⟩ := asL_rd so r e1
    exact ⟨l, ws, rfl, SqL.of h1, fun q hq => fin_newL so p h2.reverse hq⟩
  · exact p.elim) (tE1 q)
end
structure XiC (K : PySem.W.Frag) (C : Addr) : Prop where
  hga : PySem.W.findIn K (.ref C) "__getattribute__" = some (some (.builtin "BaseException.__getattribute__"))
  hgt : PySem.W.findIn K (.ref C) "__getattr__" = some none
  hsub : PySem.W.subIn K (.ref C) (.type "BaseException") = some true
  hd : PySem.W.hasDictIn K C = true
  ha : PySem.W.findIn K (.ref C) "__class__" = some (some (.builtin "object.__class__"))
  hn : PySem.W.specialIn K (.builtin "object.__class__") "__get__" = some (some (.builtin "getset_descriptor.__get__"))
  htk : PySem.W.takesIn K (.builtin "object.__class__") = some true
  hm : PySem.W.mroIn K C (.type "object") = some true
theorem XiC.xf {K : PySem.W.Frag} {C : Addr} (h : XiC K C) : XfC K C := ⟨h.hga, h.hgt, h.hsub, h.hd⟩
section
variable {X : Cx} {Z : Zy} {W : WX} {a : Addr} {oe : Obj} {c : Nat} {d : Option Addr} {pn : List (Addr × Obj)} {e T : Expr} {f : DE} {pos p : Pos} {tst : Nat → Option Bool} {cv : V} {u : Value}
/-- isinstance(e, T) -/
theorem de_isX (xi : XiC X.K (Z.cl c)) (hT : PE (X.suite a ((a, oe) :: pn)) T (tC cv)) (hcv : ∀ u', RelV cv u' → u' = u) (hk : ∀ b, tst c = some b → PySem.W.kitOne X.K (.ref (Z.cl c)) u = some b) (hz : L2N.Zn (.ref (Z.cl c)) d oe) (hf : ∃ vs, oe.data = .fields vs) (he : PE (X.suite a ((a, oe) :: pn)) e (tE (Z.hdl a c d) W f)) (hm : X.mg "isinstance" = none)
    (hg : Gl (X.suite a ((a, oe) :: pn)) "isinstance" := by rfl) (hs : starEach [e, T] X.env = (false, eval e X.env) :: starEach [T] X.env := by rfl) (hs2 : starEach [T] X.env = (false, eval T X.env) :: starEach [] X.env := by rfl) (hpl : (backTo pos (starEach [T] X.env)).any (·.1) = false := by rfl) :
    PE (X.suite a ((a, oe) :: pn)) (.Call (.Name "isinstance" p) [e, T] [] pos) (tE (Z.hdl a c d) W (eUn (kIsE tst) f)) :=
  (pe_callB (call_isX xi.hga xi.hgt xi.hsub xi.hd xi.ha xi.hn xi.htk xi.hm hz hf) hg hm (by decide +kernel) (pa_cons he (pa_cons hT pa_nil hs2) hs) (by decide) (by decide) hs hpl).weak fun σ H Q q => tE_imp (fun x H1 ⟨A, F, sl, ce, v, so, hs, r, p⟩ => by
    unfold kIsE at p
    split at p
    · rename_i c' ds
      rcases r with ⟨_, a', dx, h1, rfl, xo⟩ | ⟨hge, _⟩
      case inr => rw [if_neg (by omega)] at p; exact p.elim
      cases h1
      by_cases h9 : c < 1000
      case neg => rw [if_neg h9] at p; exact p.elim
      rw [if_pos h9] at p
      split at p
      · rename_i b hb
        refine ⟨cv, u, b, rfl, hcv, hk b hb, ?_, fin_flat so p repB⟩
        rcases xo with ⟨_, rfl⟩ | ⟨dd, fs, rfl, h2, _⟩
        · exact .inl rfl
        · exact .inr ⟨dd, fs, rfl, so.sub _ _ h2⟩
      · exact p.elim
    · exact p.elim) (tE1 q)
end
section
variable {X : Cx} {Z : Zy} {Wout : WX} {x : Str} {cv : Value} {nE : Nat} {sub : Nat → Bool} {body suite : List Stmt} {b₀ : Stmt} {np pos pos' : Pos} {fb fs : DSt}
theorem hotC_suite {a : Addr} {oe : Obj} {pn : List (Addr × Obj)} {cls : Value} {d : Option Addr} (hz : L2N.Zn cls d oe) (hf : ∃ vs, oe.data = .fields vs) : L2H.HotC (X.suite a ((a, oe) :: pn)) := by
  obtain ⟨vs, hv⟩ := hf
  exact ⟨(a, oe), ⟨rfl, vs, hv, hz.2.2 vs hv⟩, List.mem_cons_self⟩
end
section
variable {X : Cx} {Z : Zy} {W : WX} {k n : Nat} {fa : Addr} {ps : List Str} {fh : DF} {x : Str} {p pos : Pos} {e : Expr} {es : List Expr} {fs : List DE}
theorem de_callHD (G : DOkH X.prog X.w X.K X.mg X.base k fa ps (spD Z.toZx fh n)) (hr : L2H.RoomH k X.A) (hh : L2H.HotC X) (hm : X.mg x = some (.ref fa)) (ha : PA X (e :: es) (tArgs Z WF fs))
    (hg : Gl X x := by rfl) (hl : fs.length = n := by rfl) (hdb : (x == ("__debug__" : Str)) = false := by decide) (he : starEach (e :: es) X.env = (false, eval e X.env) :: starEach es X.env := by rfl) (hpl : (backTo pos (starEach es X.env)).any (·.1) = false := by rfl) :
    PE X (.Call (.Name x p) (e :: es) [] pos) (tE Z WF (eArgs fs (kCall fh))) := by
  obtain ⟨fd, F, b⟩ := G.ex
  exact (L2H.pe_callH F hr hh hg hm G.kp b tw_none ha hdb he hpl).weak fun σ H Q h => tArgs_imp (fun xs H1 ⟨A, F, sl, ce, vs, so, hs, r, l, q⟩ => by
    unfold kCall at q
    by_cases hp : vs.all plainV = true
    · rw [if_pos hp] at q
      exact spD_call (sl := sl) so r (by rw [l, hl]) hp q
    · rw [if_neg hp] at q
      exact q.elim) (tN h)
end
end ZZ
set_option Elab.async false
set_option linter.all false
set_option maxRecDepth 100000
namespace L2
open PySem PySem.Spec PyProof.Rows
/-- a zip's records between two turns of a walk that keeps what it gives out -/
def ZHeld (z TI TO i1 i2 a b : Addr) (i : Nat) (H : Hp) (h : Heap) : Prop :=
  IsPair h TI (.ref i1) (.ref i2) ∧ (∃ x y, IsPair h TO x y) ∧ h.IsListIter i1 a i ∧ h.IsListIter i2 b i ∧ (IsZip h z TI TO .none ∨ ∃ T f xs, IsZipHeld h z TI TO T f ∧ H T = some (.tup xs))
section
variable {X : Cx} {pins : List (Addr × Obj)} {σ : L2.St} {H : Hp} {s : Shared} {z TI TO i1 i2 a b q : Addr} {i : Nat} {xs ys : List V} {x y : V} {A A1 : Around} {E : Value → Shared → Prop}
theorem ZHeld.lt (st : ZHeld z TI TO i1 i2 a b i H s.heap) : ∀ c ∈ [z, TI, TO, i1, i2], c < s.heap.objs.size := by
  obtain ⟨hTI, ⟨x0, y0, hTO⟩, ⟨o1, h1, _⟩, ⟨o2, h2, _⟩, hz⟩ := st
  have hzl : z < s.heap.objs.size := by
    rcases hz with hz | ⟨T, f, vs, hz, _⟩
    · exact Heap.lt_size hz
    · exact Heap.lt_size hz
  intro c hc
  have e' : c = z ∨ c = TI ∨ c = TO ∨ c = i1 ∨ c = i2 := by simpa using hc
  rcases e' with q | q | q | q | q
  · rw [q]; exact hzl
  · rw [q]; exact Heap.lt_size hTI
  · rw [q]; exact Heap.lt_size hTO
  · rw [q]; exact Heap.lt_size h1
  · rw [q]; exact Heap.lt_size h2
end
end L2
set_option Elab.async false
set_option linter.all false
set_option maxRecDepth 100000
namespace L2
open PySem PySem.Spec
/-- the class at C has its own def at f for the name -/
structure OpC (K : PySem.W.Frag) (C : Addr) (nm : Str) (f : Addr) : Prop where
  sf : PySem.W.selfFirst K C = true
  hs : PySem.W.findIn K (.ref C) nm = some (some (.ref f))
  fn : PySem.W.isFn K (.ref f) = true
section
variable {X : Cx} {CX : CXT} {k : Nat} {f C p : Addr} {fd : FuncData} {ps : List Str} {sp : Sp} {E : L2.St → XK} {x m : Str} {pos apos : Pos} {a b e o : Expr} {es : List Expr} {ta tb : TE} {t : TA}
def tOwn (C : Addr) (sp : Sp) (E : L2.St → XK) (ta tb : TE) : TE := fun σ H Q => ta σ H fun x H1 => tb σ H1 fun y H2 => ∃ u v dx fs dy gs, x = .ref u ∧ y = .ref v ∧ H2 u = some (.ins C dx fs) ∧ H2 v = some (.ins C dy gs) ∧ sp [x, y] H2 Q (E σ)
theorem pe_bopS {op : Operator} (ha : PE X a ta) (hb : PE X b tb) (O : OpC X.K C (PySem.dunder op.info.2) f) (F : FnOk X.prog X.w X.K X.mg X.base CX k f fd ps sp) (hr : Room k X.A) (hbd : Binds X.K fd ps []) (hx : ∀ σ, PassesAt CX X σ (E σ)) :
    PE X (.BinOp a op b pos) (tOwn C sp E ta tb) := by
  refine ⟨fun pins s σ H Q I h => ?_⟩
  refine wpAny_BinOp (binT ha hb I h fun v u s2 x y H2 I2 rx ry q => ?_)
  obtain ⟨c, d, dx, fs, dy, gs, rfl, rfl, hc, hd, q⟩ := q
  cases (show v = Value.ref c from rx)
  cases (show u = Value.ref d from ry)
  obtain ⟨mA, O1, _⟩ := ins_get I2.hok hc
  obtain ⟨mB, O2, _⟩ := ins_get I2.hok hd
  obtain ⟨od, J, _⟩ := O1.look
  obtain ⟨od', J', _⟩ := O2.look
  obtain ⟨m, hF⟩ := I2.fr
  refine PySem.W.binop_K hF I2.ok.mod.kin J J'.type O.sf O.hs O.fn ?_
  refine wpAny_mono (run_fnSD (us := [.ref c, .ref d]) (vs := [.ref c, .ref d]) (dvs := []) (ds := []) F hr hbd .nil (hx σ) I2 (.cons rfl (.cons rfl .nil)) q) (fun w s' z => ?_) fun _ _ x => x
  obtain ⟨z', H', I', rz, qz⟩ := z
  exact SlX.cmpback rz ⟨z', H', I', rz, qz⟩
theorem pc_ownS {op : CmpOp} (hop : ∀ a b, compareOp op a b = richCompare op a b) (ha : PE X a ta) (hb : PE X b tb) (O : OpC X.K C (cmpInfo op).2.1 f) (F : FnOk X.prog X.w X.K X.mg X.base CX k f fd ps sp) (hr : Room k X.A) (hbd : Binds X.K fd ps []) (hx : ∀ σ, PassesAt CX X σ (E σ)) :
    PC X op a b (tOwn C sp E ta tb) := by
  refine ⟨fun pins s σ H Q I h => ?_⟩
  refine binT ha hb I h fun v u s2 x y H2 I2 rx ry q => ?_
  obtain ⟨c, d, dx, fs, dy, gs, rfl, rfl, hc, hd, q⟩ := q
  cases (show v = Value.ref c from rx)
  cases (show u = Value.ref d from ry)
  obtain ⟨mA, O1, _⟩ := ins_get I2.hok hc
  obtain ⟨mB, O2, _⟩ := ins_get I2.hok hd
  obtain ⟨od, J, _⟩ := O1.look
  obtain ⟨od', J', _⟩ := O2.look
  obtain ⟨m, hF⟩ := I2.fr
  rw [hop]
  refine PySem.W.cmp_K (op := op) (tb := .ref C) hr.units0 hF I2.ok.mod.kin J J'.type (by simp [PySem.W.notFirst]) O.hs O.fn ?_
  refine wpAny_mono (run_fnSD (us := [.ref c, .ref d]) (vs := [.ref c, .ref d]) (dvs := []) (ds := []) F hr hbd .nil (hx σ) I2 (.cons rfl (.cons rfl .nil)) q) (fun w s' z => ?_) fun _ _ x => x
  obtain ⟨z', H', I', rz, qz⟩ := z
  exact SlX.cmpback rz ⟨z', H', I', rz, qz⟩
end
end L2
namespace ZZ
open PySem PySem.Spec L2
def kOwn (c : Nat) (fh : DF) (v u : Val) : DE := fun _ ce => if isC c ce v && isC c ce u then fh [v, u] ce else .stuck
section
variable {X : Cx} {Z : Zy} {W : WX} {k n : Nat} {fa pa : Addr} {ps : List Str} {fh : DF} {x m nm : Str} {p pos pos2 apos : Pos} {a b e e2 o : Expr} {es : List Expr} {f g : DE} {fs : List DE} {c : Nat}
theorem t_own {σ : L2.St} {H : Hp} {Q : VK} (h : tE Z W (eBin (kOwn c fh) f g) σ H Q) : tOwn (Z.cl c) (spD Z.toZx fh 2) (WE W) (tE Z W f) (tE Z W g) σ H Q :=
  tE_imp (fun x H1 h1 => tE_imp (fun y H2 ⟨A, F, sl, ce, v, u, so, hs, rv, ru, p⟩ => by
    unfold kOwn at p
    by_cases hi : (isC c ce v && isC c ce u) = true
    · rw [if_pos hi] at p
      simp only [Bool.and_eq_true] at hi
      obtain ⟨a, dx, fs, n, rfl, h1, h2⟩ := isC_rd so rv hi.1
      obtain ⟨b, dy, gs, n', rfl, h3, h4⟩ := isC_rd so ru hi.2
      exact ⟨a, b, dx, fs, dy, gs, rfl, rfl, h1, h3, spD_call (sl := sl) (vs := [v, u]) so ⟨_, _, rfl, rv, _, _, rfl, ru, rfl⟩ rfl (by simp [isC_plain hi.1, isC_plain hi.2]) p⟩
    · rw [if_neg hi] at p
      exact p.elim) h1) (tE2 h)
theorem de_bopD {op : Operator} (O : OpC X.K (Z.cl c) (PySem.dunder op.info.2) fa) (G : DOk X.prog X.w X.K X.mg X.base k fa ps (spD Z.toZx fh 2)) (hr : Room k X.A) (tw : TW X W) (ha : PE X a (tE Z W f)) (hb : PE X b (tE Z W g)) :
    PE X (.BinOp a op b pos) (tE Z W (eBin (kOwn c fh) f g)) := by
  obtain ⟨fd, F, bd⟩ := G.ex
  exact (pe_bopS ha hb O F hr bd tw).weak fun σ H Q h => t_own h
theorem dunder_add : PySem.dunder Operator.Add.info.2 = "__add__" := by decide +kernel
theorem de_ownAdd (O : OpC X.K (Z.cl c) "__add__" fa) (G : DOk X.prog X.w X.K X.mg X.base k fa ps (spD Z.toZx fh 2)) (hr : Room k X.A) (tw : TW X W) (ha : PE X a (tE Z W f)) (hb : PE X b (tE Z W g)) : PE X (.BinOp a .Add b pos) (tE Z W (eBin (kOwn c fh) f g)) := de_bopD (by rw [dunder_add]; exact O) G hr tw ha hb
/-- a comparison by the class's own def -/
structure CmpO (X : Cx) (Z : Zy) (W : WX) (op : CmpOp) (c : Nat) (fh : DF) : Prop where
  ex : ∀ {a b : Expr} {f g : DE}, PE X a (tE Z W f) → PE X b (tE Z W g) → PC X op a b (tE Z W (eBin (kOwn c fh) f g))
theorem c_own {op : CmpOp} (hop : ∀ a b, compareOp op a b = richCompare op a b) (O : OpC X.K (Z.cl c) (cmpInfo op).2.1 fa) (G : DOk X.prog X.w X.K X.mg X.base k fa ps (spD Z.toZx fh 2)) (hr : Room k X.A) (tw : TW X W) : CmpO X Z W op c fh := by
  obtain ⟨fd, F, bd⟩ := G.ex
  exact ⟨fun ha hb => ⟨fun pins s σ H Q I h => (pc_ownS hop ha hb O F hr bd tw).run pins s σ H Q I (t_own h)⟩⟩
theorem c_ownEq (O : OpC X.K (Z.cl c) "__eq__" fa) (G : DOk X.prog X.w X.K X.mg X.base k fa ps (spD Z.toZx fh 2)) (hr : Room k X.A) (tw : TW X W) : CmpO X Z W .Eq c fh := c_own (op := .Eq) (fun _ _ => rfl) O G hr tw
theorem de_cmpO {op : CmpOp} (C : CmpO X Z W op c fh) (ha : PE X a (tE Z W f)) (hb : PE X b (tE Z W g)) (h1 : behindInMarks op b = false := by first | exact nobehind _ (by decide) (by decide) | rfl) : PE X (.Compare a [op] [b] pos) (tE Z W (eBin (kOwn c fh) f g)) := pe_cmp (C.ex ha hb) h1
theorem reps_strs {F : Hp} : ∀ {ds : List D} {vs : List V} {ys : List Str}, Reps Z.toZx F ds vs → asStrs ds = some ys → vs = ys.map V.str
  | [], vs, ys, r, e => by
    cases e
    exact reps_nil_inv r
  | .str s :: ds, vs, ys, r, e => by
    unfold asStrs at e
    obtain ⟨v, r', rfl, h1, h2⟩ := reps_cons_inv r
    cases hh : asStrs ds with
    | none => rw [hh] at e; cases e
    | some zs =>
      rw [hh] at e
      cases e
      unfold Rep at h1
      rw [h1, reps_strs h2 hh]
      rfl
  | .non :: ds, vs, ys, r, e => by cases e
  | .bl _ :: ds, vs, ys, r, e => by cases e
  | .int _ :: ds, vs, ys, r, e => by cases e
  | .tup _ :: ds, vs, ys, r, e => by cases e
  | .lst _ :: ds, vs, ys, r, e => by cases e
  | .wl _ :: ds, vs, ys, r, e => by cases e
  | .ins _ _ :: ds, vs, ys, r, e => by cases e
def kJoin (v : Val) (vs : List Val) : DE := fun _ ce => match v, vs with
  | .im (.str a), [u] => match asL ce u with
    | some ds => match asStrs ds with
      | some ys => if (ys.map (·.length)).sum + ys.length * a.length ≤ 16777216 then .ok (.im (.str (Txt.join a ys))) ce else .stuck
      | none => .stuck
    | none => .stuck
  | _, _ => .stuck
theorem de_join {cpos : Pos} (hK : X.K = Z.K) (ho : PE X o (tE Z W f)) (ha : PE X e (tE Z W g))
    (hb : attributeBase o "join" X.env (eval o X.env) = eval o X.env := by rfl) (hl : (apos.endLine == cpos.line) = true := by rfl) (hs : starEach [e] X.env = (false, eval e X.env) :: starEach [] X.env := by rfl)
    (hfew : ((backTo cpos (starEach [e] X.env)).all (fun x => !x.1) && (backToKw cpos (keywordEach [] X.env)).all (fun x => x.1.isSome)
      && decide ([e].length + ([] : List Keyword).length + (if ([] : List Keyword).isEmpty then 0 else 1) < 30)) = true := by rfl) :
    PE X (.Call (.Attribute o "join" apos) [e] [] cpos) (tE Z W (eMth tyS kJoin f [g])) :=
  de_bm PySem.F.plainAttrs_str PySem.F.slot_str_join PySem.F.type_str_join mt_join ⟨tyS_ok, fun A F sl ce v x vs xs H σ Q so hs rv rs p => by
    unfold kJoin at p
    split at p
    · rename_i u
      split at p
      · rename_i ds e1
        split at p
        · rename_i ys e2
          split at p
          · rename_i hz
            obtain ⟨y, rfl, ry⟩ := vreps1 rs
            obtain ⟨l, ws, rfl, h1, h2⟩ := asL_rd so ry e1
            have := reps_strs h2 e2
            subst this
            rw [rep_str rv]
            exact ⟨_, l, ys, rfl, rfl, .inl (SqL.of h1), hz, fin_flat so p repS⟩
          · exact p.elim
        · exact p.elim
      · exact p.elim
    · exact p.elim⟩ ho (da_cons ha da_nil hs) hb hl hs rfl hfew
end
end ZZ
set_option Elab.async false
set_option linter.all false
set_option maxRecDepth 100000
namespace PySem.W
open PySem PySem.Spec
end PySem.W
namespace PySem.W
open PySem PySem.Calls PyProof.Rows
end PySem.W
namespace L2
open PySem PySem.Spec
section
variable {X : Cx} {CX : CXT} {k : Nat} {f C p : Addr} {fd : FuncData} {ps : List Str} {sp : Sp} {E : L2.St → XK} {pos : Pos} {a : Expr} {ta : TE}
def tOwn1 (C : Addr) (sp : Sp) (E : L2.St → XK) (ta : TE) : TE := fun σ H Q => ta σ H fun x H1 => ∃ u dx fs, x = .ref u ∧ H1 u = some (.ins C dx fs) ∧ sp [x] H1 Q (E σ)
theorem pe_ownInv (ha : PE X a ta) (hs : PySem.W.findIn X.K (.ref C) "__invert__" = some (some (.ref f))) (hf : PySem.W.isFn X.K (.ref f) = true) (F : FnOk X.prog X.w X.K X.mg X.base CX k f fd ps sp) (hr : Room k X.A) (hbd : Binds X.K fd ps []) (hx : ∀ σ, PassesAt CX X σ (E σ)) :
    PE X (.UnaryOp .Invert a pos) (tOwn1 C sp E ta) := by
  refine ⟨fun pins s σ H Q I h => ?_⟩
  refine wpAny_UnaryOp (thn (ha.run pins s σ H _ I h) fun u s1 ⟨x, H1, I1, rx, c, dx, fs, ex, hc, q⟩ => ?_)
  subst ex
  obtain rfl : u = Value.ref c := rx
  obtain ⟨mA, O1, _⟩ := ins_get I1.hok hc
  obtain ⟨od, J, _⟩ := O1.look
  obtain ⟨m, hF⟩ := I1.fr
  refine PySem.W.ksp_inv hF I1.ok.mod.kin J hs hf ?_
  exact run_fnSD (us := [.ref c]) (vs := [.ref c]) (dvs := []) (ds := []) F hr hbd .nil (hx σ) I1 (.cons rfl .nil) q
end
end L2
namespace ZZ
open PySem PySem.Spec L2
def kOwn1 (c : Nat) (fh : DF) (v : Val) : DE := fun _ ce => if isC c ce v then fh [v] ce else .stuck
/-- the class's own unary operator -/
structure Op1 (K : PySem.W.Frag) (C : Addr) (nm : Str) (f : Addr) : Prop where
  hs : PySem.W.findIn K (.ref C) nm = some (some (.ref f))
  fn : PySem.W.isFn K (.ref f) = true
section
variable {X : Cx} {Z : Zy} {W : WX} {k n : Nat} {fa pa : Addr} {ps : List Str} {fh : DF} {x m nm : Str} {p pos pos2 apos cpos : Pos} {a b e e2 o : Expr} {es : List Expr} {f g : DE} {fs : List DE} {c : Nat}
theorem t_own1 {σ : L2.St} {H : Hp} {Q : VK} (h : tE Z W (eUn (kOwn1 c fh) f) σ H Q) : tOwn1 (Z.cl c) (spD Z.toZx fh 1) (WE W) (tE Z W f) σ H Q :=
  tE_imp (fun x H1 ⟨A, F, sl, ce, v, so, hs, rv, p⟩ => by
    unfold kOwn1 at p
    by_cases hi : isC c ce v = true
    · rw [if_pos hi] at p
      obtain ⟨a, dx, fs, n, rfl, h1, h2⟩ := isC_rd so rv hi
      exact ⟨a, dx, fs, rfl, h1, spD_call (sl := sl) (vs := [v]) so ⟨_, _, rfl, rv, rfl⟩ rfl (by simp [isC_plain hi]) p⟩
    · rw [if_neg hi] at p
      exact p.elim) (tE1 h)
theorem de_ownInv (O : Op1 X.K (Z.cl c) "__invert__" fa) (G : DOk X.prog X.w X.K X.mg X.base k fa ps (spD Z.toZx fh 1)) (hr : Room k X.A) (tw : TW X W) (ha : PE X a (tE Z W f)) :
    PE X (.UnaryOp .Invert a pos) (tE Z W (eUn (kOwn1 c fh) f)) := by
  obtain ⟨fd, F, bd⟩ := G.ex
  exact (pe_ownInv ha O.hs O.fn F hr bd tw).weak fun σ H Q h => t_own1 h
end
end ZZ
set_option Elab.async false
set_option linter.all false
set_option maxRecDepth 100000
namespace L2
open PySem PySem.Spec PyProof.Rows
/-- a promise that knows the heap's size at the entry -/
structure FnOkN (P : Program) (w : World) (K : PySem.W.Frag) (mg : Str → Option Value) (base : Heap) (CX : CXT) (k : Nat) (f : Addr) (fd : FuncData) (ps : List Str) (sp : Nat → Sp) : Prop where
  len : ∀ n vs H Q E, sp n vs H Q E → vs.length = ps.length
  run : ∀ (A : Around) (outer : List Env) (s : Shared) (H : Hp) (args : Args) (us : List Value) (vs : List V) (Q : VK) (E : XK), Room k A → Env0 P w K mg base A outer s H → BindsTo s fd args (ps.zip us) → Vals vs us →
    sp s.heap.objs.size vs H Q E → codeAny (model P w) A (.call (.ref f) args) (CR CX outer P w H s Q E) s
theorem fn_ofN {CX : CXT} {P : Program} {w : World} {K : PySem.W.Frag} {mg : Str → Option Value} {base : Heap} {k : Nat} {f : Addr} {name qual : Str} {st : Stmt} {fd : FuncData} {N ps : List Str} {sp : Nat → Sp}
    (Fn : Fun K name qual st f fd) (S : FnScope N ps (defScope st)) (len : ∀ n vs H Q E, sp n vs H Q E → vs.length = ps.length)
    (hbody : ∀ (cdv : Value) (A : Around) (outer : List Env) (s : Shared) (H : Hp) (vs : List V) (Q : VK) (E : XK), Room k (A.deeper (envOfC qual (defScope st) s.heap.objs.size f cdv)) → sp s.heap.objs.size vs H Q E →
      ∃ t, PSs (cxOf CX P w K mg base N qual (defScope st) f cdv A outer s H E) (defBody st) t ∧ t { nx := fun _ H' => Q .non H', rt := Q } (start N vs) H) :
    FnOkN P w K mg base CX (k + 1) f fd ps sp := by
  obtain ⟨oc, od, kV, doc, pm, an, cdv, ct, osl, rfl, lk, hcd⟩ := Fn.ex
  refine ⟨len, fun A outer s H args us vs Q E room e0 hb r q => ?_⟩
  have hlen := len _ _ _ _ _ q
  have inK : K.In s.heap := e0.mod.kin.keeps fun b o z => (e0.bs b o z).1
  have noLim : s.heap.NoLimit := e0.mod.nolimit.keeps fun b o z => (e0.bs b o z).1
  refine codeAny_call_function room.depth (inK _ _ lk) rfl S.co S.gen rfl (PySem.W.codeRec_of inK hcd) (hb _ _ _ _ ?_)
  refine wpAny_newFunctionEnv_cells S.kind (fun ⟨n, v⟩ hy => ?_) fun env he s1 x => ?_
  · rcases S.par n (List.of_mem_zip hy).1 with z | z
    · exact .inl z
    · exact .inr ⟨z, PySem.W.cellsFrom_some _ _ _ (.inl z)⟩
  subst he
  refine ⟨noLim.keeps x.toInCall.keep, codeAny_func ?_⟩
  obtain ⟨t, ht, hq⟩ := hbody cdv A outer s H vs Q E (room.deeper _) q
  have J0 := inv_start (CX := CX) (E := E) S room.hd e0 hlen r x
  refine wpAny_mono (ht.run [] s1 (start N vs) H _ J0 hq) (fun fl s' hs => ?_) fun e s' z => z
  cases fl with
  | ret u =>
    obtain ⟨v, σ', H', J, rv, q⟩ := hs
    exact ⟨v, H', J.os, J.bare, J.base, J.hok, rv, q⟩
  | next =>
    obtain ⟨σ', H', J, q⟩ := hs
    exact ⟨V.non, H', J.os, J.bare, J.base, J.hok, rfl, q⟩
  | brk =>
    obtain ⟨_, _, _, q⟩ := hs
    exact q.elim
  | cont =>
    obtain ⟨_, _, _, q⟩ := hs
    exact q.elim
/-- return iter(self.fl) -/
def spIter (K : PySem.W.Frag) (C : Addr) (fl : Str) (n : Nat) : Sp := fun vs H Q _ => ∃ a dx fs l zs, vs = [.ref a] ∧ H a = some (.ins C dx fs) ∧ Cls K C ∧ NoAttr K C fl ∧ fs.lookup fl = some (.ref l) ∧ SqL K H l zs ∧
  ∀ it, H it = none → n ≤ it → Q (.ref it) (upd H it (ItO l it 0))
section
variable {X : Cx} {CX : CXT} {k : Nat} {f C p : Addr} {fd : FuncData} {ps : List Str} {sp : Sp} {E : L2.St → XK} {x m fl : Str} {pos apos pos' : Pos} {a b e o tg : Expr} {es : List Expr} {ta tb : TE} {t : TA}
def iOwnIt (K : PySem.W.Frag) (C : Addr) (fl : Str) (tl : TE) : TI := fun σ H R => tl σ H fun x H1 => ∃ a dx fs l zs, x = .ref a ∧ H1 a = some (.ins C dx fs) ∧ Cls K C ∧ NoAttr K C fl ∧ fs.lookup fl = some (.ref l) ∧ SqL K H1 l zs ∧ R (Itl K l) H1
theorem pi_ownIt (he : PE X e ta) (hs : PySem.W.findIn X.K (.ref C) "__iter__" = some (some (.ref f))) (hf : PySem.W.isFn X.K (.ref f) = true) (F : FnOkN X.prog X.w X.K X.mg X.base CX k f fd ["self"] (spIter X.K C fl)) (hr : Room k X.A) (hbd : Binds X.K fd ["self"] []) (hx : Passes CX X fun _ _ _ => False) :
    PI X tg e (iOwnIt X.K C fl ta) := by
  refine ⟨fun pins s σ H R I h => ?_⟩
  refine thn (he.run pins s σ H _ I h) fun v s1 ⟨x, H1, I1, rx, c, dx, fs, l, zs, ex, hc, hcl, hno, hlk, hsq, q⟩ => ?_
  subst ex
  obtain rfl : v = Value.ref c := rx
  obtain ⟨mA, O1, _⟩ := ins_get I1.hok hc
  obtain ⟨od, J, _⟩ := O1.look
  obtain ⟨m, hF⟩ := I1.fr
  refine PySem.W.owit_iter hF I1.ok.mod.kin J hs hf ?_
  refine wpAny_call (codeAny_mono (F.run X.A X.stack s1 H1 ⟨[.ref c], []⟩ [.ref c] [.ref c] (fun v H' => ∃ it, v = .ref it ∧ H1 it = none ∧ s1.heap.objs.size ≤ it ∧ H' = upd H1 it (ItO l it 0)) (fun _ _ _ => False) hr I1.env0 (hbd s1 [.ref c] I1.kIn rfl) (.cons rfl .nil) ⟨c, dx, fs, l, zs, rfl, hc, hcl, hno, hlk, hsq, fun it h1 h2 => ⟨it, rfl, h1, h2, rfl⟩⟩) fun r s' hq => ?_)
  cases r with
  | error er => exact hx pins σ H1 s1 er s' I1 hq
  | ok fl' =>
    cases fl' with
    | ret u =>
      obtain ⟨v, H', I2, rv, it, rfl, hn, hle, rfl⟩ := I1.after hq
      obtain rfl : u = Value.ref it := rv
      have hi : (upd H1 it (ItO l it 0)) it = some (ItO l it 0) := upd_same
      have eo := itO_get I2 hi
      have hT : s'.TypeIs (.ref it) "list_iterator" := ⟨_, eo, rfl⟩
      have st : s'.heap.IsListIter it l 0 := ⟨_, eo, rfl, rfl⟩
      have hi' := hi
      unfold ItO at hi'
      have I3 := ItX.inv_drop I2 hi'
      have ed : ItX.dropH (upd H1 it (ItO l it 0)) it = H1 := ItX.dropH_upd hn
      have fp := ItX.inv_fp I2 hi (Nat.le_trans I1.sz hle)
      rw [ed] at I3 fp
      show PySem.W.OwitIt _ _ _ _ _ _
      unfold PySem.W.OwitIt
      refine wpAny_specialOf (name := Str.ofString "__next__") hT slot_listiter_next.lookup ?_
      refine ⟨it, [it], _, _, H1, rfl, I3, turn_list l it, st, fun b hb => ?_, q⟩
      have e : b = it := by simpa using hb
      rw [e]
      exact fp
    | next => exact False.elim hq
    | brk => exact False.elim hq
    | cont => exact False.elim hq
end
end L2
namespace L2
open PySem PySem.Spec PyProof.Rows
section
variable {X : Cx} {CX : CXT} {k i : Nat} {f C p : Addr} {fd : FuncData} {ps : List Str} {sp : Sp} {E : L2.St → XK} {x m fl : Str} {pos apos pos' pn : Pos} {a b e o tg : Expr} {es : List Expr} {ta tb : TE} {t : TA}
/-- len(e), e an instance with __len__ -/
def tLenO (C : Addr) (sp : Sp) (ta : TE) : TE := fun σ H Q => ta σ H fun x H1 => ∃ a dx fs, x = .ref a ∧ H1 a = some (.ins C dx fs) ∧ sp [x] H1 (fun v H2 => ∃ n, v = .int n ∧ 0 ≤ n ∧ n < 2 ^ 62 ∧ Q (.int n) H2) fun _ _ _ => False
theorem pe_lenO (he : PE X e ta) (hs : PySem.W.findIn X.K (.ref C) "__len__" = some (some (.ref f))) (hf : PySem.W.isFn X.K (.ref f) = true) (F : FnOk X.prog X.w X.K X.mg X.base CX k f fd ["self"] sp) (hr : Room (k + 1) X.A) (hbd : Binds X.K fd ["self"] []) (hx : Passes CX X fun _ _ _ => False)
    (hg : Gl X "len") (hm : X.mg "len" = none) (hst : starEach [e] X.env = (false, eval e X.env) :: starEach [] X.env := by rfl) (hpl : (backTo pos (starEach [] X.env)).any (·.1) = false := by rfl) :
    PE X (.Call (.Name "len" pn) [e] [] pos) (tLenO C sp ta) := by
  refine ⟨fun pins s σ H Q I h => ?_⟩
  refine wpAny_Call_Name_kw (ld_blt (u := .builtin "len") I hg hm PySem.boot_len ?_ (by decide) (by decide))
  have ha : PA X [e] (tCons ta tNil) := pa_cons he pa_nil hst
  refine PyProof.Rows.callWith_builtin1 (thn (ha.run pos pins s σ H (fun vs H1 => match vs with
    | [x] => ∃ a dx fs, x = .ref a ∧ H1 a = some (.ins C dx fs) ∧ sp [x] H1 (fun v H2 => ∃ n, v = .int n ∧ 0 ≤ n ∧ n < 2 ^ 62 ∧ Q (.int n) H2) fun _ _ _ => False
    | _ => False) I h) fun us s1 ⟨vs, H1, I1, r1, q1⟩ => ?_) hst hpl
  rcases vs with _ | ⟨x, _ | ⟨y, r⟩⟩
  · exact q1.elim
  rotate_left
  · exact q1.elim
  obtain ⟨c, dx, fs, rfl, hc, q⟩ := q1
  obtain ⟨u, rfl, ru⟩ := vals1 r1
  obtain rfl : u = Value.ref c := ru
  obtain ⟨mA, O1, _⟩ := ins_get I1.hok hc
  obtain ⟨od, J, _⟩ := O1.look
  obtain ⟨m, hF⟩ := I1.fr
  refine PySem.W.len_K hF I1.ok.mod.kin J hs hf ?_
  refine wpAny_call (codeAny_mono (F.run X.A.in1 X.stack s1 H1 ⟨[.ref c], []⟩ [.ref c] [.ref c] _ _ hr.in1 I1.env0.in1 (hbd s1 [.ref c] I1.kIn rfl) (.cons rfl .nil) q) fun r s' hq => ?_)
  cases r with
  | error er => exact hx pins σ H1 s1 er s' I1 hq
  | ok fl' =>
    cases fl' with
    | ret u =>
      obtain ⟨v, H', I2, rv, n, rfl, n0, n1, q2⟩ := I1.after hq
      obtain ⟨tk, rfl⟩ := rv
      exact ⟨⟨n0, by omega⟩, .int n, H', I2.tok _, ⟨_, rfl⟩, q2⟩
    | next => exact False.elim hq
    | brk => exact False.elim hq
    | cont => exact False.elim hq
end
end L2
namespace PySem.W
open PySem PySem.Spec PySem.Calls PyProof.Rows
end PySem.W
namespace ZZ
open PySem PySem.Spec L2
/-- an own class's items: its i-th field, a list -/
def itO (c i : Nat) : Val → Option (List D)
  | .im (.ins d ds) => if d = c then (match ds[i]? with
    | some (.lst es) => some es
    | _ => none) else none
  | _ => none
/-- len(e), e an own instance -/
def kLenO (c : Nat) (fh : DF) (v : Val) : DE := fun _ ce => if isC c ce v then (match fh [v] ce with
  | .ok (.im (.int n)) ce' => if Nat.ble n.natAbs 4611686018427387903 && decide (0 ≤ n) then .ok (.im (.int n)) ce' else .stuck
  | _ => .stuck) else .stuck
/-- a def that gives an iterator over a field -/
structure ItOk (P : Program) (w : World) (K : PySem.W.Frag) (mg : Str → Option Value) (base : Heap) (C f : Addr) (fl : Str) : Prop where
  hs : PySem.W.findIn K (.ref C) "__iter__" = some (some (.ref f))
  fn : PySem.W.isFn K (.ref f) = true
  ex : ∃ fd, FnOkN P w K mg base (L2N.CX P w) 1 f fd ["self"] (spIter K C fl) ∧ Binds K fd ["self"] []
theorem pass_none {X : Cx} : Passes (L2N.CX X.prog X.w) X fun _ _ _ => False := fun pins σ H s e s' I h => tw_none σ pins H s e s' I h
section
variable {X : Cx} {Z : Zy} {W : WX} {k n i : Nat} {fa : Addr} {ps : List Str} {fh : DF} {fl : Str} {p pos pn : Pos} {a b e tg : Expr} {f g : DE} {c : Nat}
theorem jok_l2 {Z : Zx} {F : Hp} {K : PySem.W.Frag} {a : Addr} {vs : List V} {ds : List D} (hl : SqL K F a vs) (r : Reps Z F ds vs) : JOk Z F (Itl K a) ds := fun F1 H i e1 e2 => by
  have h2 := e2.seq (e1.seq hl)
  refine ⟨fun h => ⟨vs, h2, by rw [h, r.length]; exact Nat.le_refl _⟩, fun d hd => ?_⟩
  obtain ⟨v, hv, rv⟩ := r.get' hd
  refine ⟨⟨vs, v, h2, hv⟩, fun x H' ⟨eH, hx⟩ => .inl ⟨?_, eH⟩⟩
  have := hx vs h2
  rw [hv] at this
  cases this
  exact rv.mono e1
theorem itN {P : Program} {w : World} {K : PySem.W.Frag} {mg : Str → Option Value} {base : Heap} {name qual : Str} {st : Stmt} {f C : Addr} {fd : FuncData} {fl : Str} {p1 p2 p3 p4 p5 : Pos} (Fn : Fun K name qual st f fd) (S : FnScope ["self"] ["self"] (defScope st)) (hm : mg "iter" = none)
    (hb : defBody st = [.Return (some (.Call (.Name "iter" p1) [.Attribute (.Name "self" p2) fl p3] [] p4)) p5])
    (hg : (defScope st).names.lookup ("iter" : Str) = some .globalImplicit) (hv : (defScope st).names.lookup ("self" : Str) = some .local) : FnOkN P w K mg base (L2N.CX P w) 1 f fd ["self"] (spIter K C fl) := by
  refine fn_ofN Fn S (fun n vs H Q E ⟨a, dx, fs, l, zs, e, _⟩ => by rw [e]; rfl) fun cdv A outer s H vs Q E hr h => ?_
  rw [hb]
  refine ⟨_, pss_one (ps_ret (pe_callB (ItX.call_iterN) (show Gl _ "iter" from hg) hm (by decide +kernel) (pa_cons (pe_fld (pe_var (i := 0) rfl (.inl hv)) rfl) pa_nil rfl))), ?_⟩
  obtain ⟨a, dx, fs, l, zs, rfl, ha, hc, hn, hl, hq, k⟩ := h
  exact ⟨_, rfl, a, C, dx, fs, .ref l, rfl, ha, hc, hn, hl, l, zs, rfl, hq, k⟩
theorem di_own (hK : X.K = Z.K) (he : PE X e (tE Z W f)) (kc : ClsOk X.K Z.toZx c) (na : NoAttr X.K (Z.cl c) fl) (hi : (Z.fl c)[i]? = some fl) (G : ItOk X.prog X.w X.K X.mg X.base (Z.cl c) fa fl) (hr : Room 1 X.A) : PI X tg e (tI Z W (iExp f (itO c i))) := by
  obtain ⟨fd, F, bd⟩ := G.ex
  refine (pi_ownIt he G.hs G.fn F hr bd pass_none).weak fun σ H R h => tE_imp (fun x H1 ⟨A, F, ce, v, ds, so, r, e, q⟩ => ?_) (tI1 h)
  unfold itO at e
  split at e
  · rename_i d xs
    split at e
    · rename_i hd
      subst hd
      split at e
      · rename_i es hx
        cases e
        unfold VRep Rep at r
        obtain ⟨a, dx, fs, rfl, ha, hf, hr2⟩ := r
        obtain ⟨v, hv, rv⟩ := lookup_ix (n := (Z.fl d).length) kc.nd (by rw [List.take_length]; exact hf) hr2 hi hx
        unfold Rep at rv
        obtain ⟨l, vs, rfl, hl, rr⟩ := rv
        exact ⟨a, dx, fs, l, vs, rfl, so.sub _ _ ha, kc.cls, na, hv, SqL.of (so.sub _ _ hl), q _ (jok_l2 (SqL.of hl) rr)⟩
      · cases e
    · cases e
  · cases e
theorem de_lenO (he : PE X e (tE Z W f)) (hs : PySem.W.findIn X.K (.ref (Z.cl c)) "__len__" = some (some (.ref fa))) (hf : PySem.W.isFn X.K (.ref fa) = true) (G : DOk X.prog X.w X.K X.mg X.base k fa ["self"] (spD Z.toZx fh 1)) (hr : Room (k + 1) X.A) (hg : Gl X "len") (hm : X.mg "len" = none)
    (hst : starEach [e] X.env = (false, eval e X.env) :: starEach [] X.env := by rfl) (hpl : (backTo pos (starEach [] X.env)).any (·.1) = false := by rfl) : PE X (.Call (.Name "len" pn) [e] [] pos) (tE Z W (eUn (kLenO c fh) f)) := by
  obtain ⟨fd, F, bd⟩ := G.ex
  refine (pe_lenO (C := Z.cl c) he hs hf F hr bd pass_none hg hm hst hpl).weak fun σ H Q h => tE_imp (fun x H1 ⟨A, F, sl, ce, v, so, hs, rv, p⟩ => ?_) (tE1 h)
  unfold kLenO at p
  by_cases hi : isC c ce v = true
  · rw [if_pos hi] at p
    obtain ⟨a, dx, fs, n, rfl, h1, h2⟩ := isC_rd so rv hi
    refine ⟨a, dx, fs, rfl, h1, spD_call (W := WF) (sl := sl) (σ := σ) (vs := [v]) so ⟨_, _, rfl, rv, rfl⟩ rfl (by simp [isC_plain hi]) ?_⟩
    split at p
    · rename_i n ce' e
      rw [e]
      split at p
      · rename_i hb
        rw [Bool.and_eq_true, Nat.ble_eq, decide_eq_true_eq] at hb
        exact fun A' F' H' x p1 e1 so1 r1 => ⟨n, rep_int r1, hb.2, by omega, by rw [← rep_int r1]; exact p A' F' H' x p1 e1 so1 r1⟩
      · exact p.elim
    · exact p.elim
  · rw [if_neg hi] at p
    exact p.elim
end
end ZZ
namespace L2
open PySem PySem.Spec PyProof.Rows
end L2
namespace ZZ
open PySem PySem.Spec L2
end ZZ
set_option Elab.async false
set_option linter.all false
set_option maxRecDepth 100000
namespace PySem.W
open PySem PySem.Spec PySem.Calls PyProof.Rows
end PySem.W
namespace L2
open PySem PySem.Spec PyProof.Rows NdefX
/-- in the body of the function itself -/
structure PEat (X : Cx) (body : List Stmt) (e : Expr) (t : TE) : Prop where
  run : ∀ (pins : List (Addr × Obj)) (s : Shared) (σ : St) (H : Hp) (Q : VK), Inv X pins σ H s → t σ H Q → _root_.PySem.wpAt (model X.prog X.w) X.A (.func body X.env) (eval e X.env) (EP X pins σ Q) X.xe s
structure PSat (X : Cx) (body : List Stmt) (st : List Stmt) (t : TS) : Prop where
  run : ∀ (pins : List (Addr × Obj)) (s : Shared) (σ : St) (H : Hp) (D : Ends), Inv X pins σ H s → t D σ H → _root_.PySem.wpAt (model X.prog X.w) X.A (.func body X.env) (execs st X.env) (SP X pins D) X.xe s
end L2
namespace L2
open PySem PySem.Spec PyProof.Rows NdefX
end L2
namespace L2
open PySem PySem.Spec PyProof.Rows NdefX
end L2
set_option Elab.async false
set_option linter.all false
set_option maxRecDepth 100000
namespace L2
open PySem PySem.Spec PyProof.Rows NdefX
section
variable {X : Cx} {CX : CXT} {body : List Stmt} {a b e o : Expr} {es rest : List Expr} {ta tb : TE} {t : TA} {u : TS} {st : Stmt} {sts : List Stmt} {ts : TS} {pos apos pn : Pos} {m y : Str} {k : Nat} {E : L2.St → XK}
theorem PSat.weak {t t' : TS} (h : PSat X body sts t) (hw : ∀ D σ H, t' D σ H → t D σ H) : PSat X body sts t' := ⟨fun pins s σ H D I q => h.run pins s σ H D I (hw D σ H q)⟩
theorem PEat.weak {t t' : TE} (h : PEat X body e t) (hw : ∀ σ H Q, t' σ H Q → t σ H Q) : PEat X body e t' := ⟨fun pins s σ H Q I q => h.run pins s σ H Q I (hw σ H Q q)⟩
end
end L2
namespace ZZ
open PySem PySem.Spec L2 NdefX
theorem DOk.mono {P : Program} {w : World} {K : PySem.W.Frag} {mg : Str → Option Value} {base : Heap} {j k : Nat} {a : Addr} {ps : List Str} {sp : Sp} (d : DOk P w K mg base j a ps sp) (h : j ≤ k) : DOk P w K mg base k a ps sp := by
  obtain ⟨fd, F, b⟩ := d.ex
  exact ⟨⟨fd, F.mono h, b⟩, d.kp⟩
end ZZ
set_option Elab.async false
set_option linter.all false
set_option maxRecDepth 100000
namespace ZZ
open PySem PySem.Spec L2 NdefX
section
variable {X : Cx} {Z : Zy} {W : WX} {k n : Nat} {c nf : Nat} {fa : Addr} {fd : FuncData} {ps : List Str} {x k1 k2 : Str} {fh : DF} {p pos kp1 kp2 : Pos} {e1 e2 : Expr} {f1 f2 : DE}
theorem make_core {A : List Addr} {F : Hp} {sl : Sl} {ce : List Cell} {vs : List Val} {xs : List V} {H1 : Hp} {σ : L2.St} {Q : VK} (so : SO Z.toZx A F ce H1) (r : VReps Z A F vs xs) (l : vs.length = n) (hfl : (Z.fl c).length = nf) (q : PostE Z A F W σ Q (kMake c nf fh vs sl ce)) :
    ∀ (a dx : Addr), H1 a = none → H1 dx = none → dx ≠ a → spD Z.toZx fh (n + 1) (.ref a :: xs) (upd (upd H1 dx (.own a)) a (.ins (Z.cl c) dx [])) (fun v H3 => v = .non ∧ Q (.ref a) H3) (WE W σ) := by
  intro a dx ha' hdx hne
  unfold kMake at q
  by_cases hp : vs.all plainV = true
  · rw [if_pos hp] at q
    -- the new instance's dict, then the instance as a cell
    have so1 := so.new (o := .own a) hdx
    have fa1 : (upd F dx (.own a)) a = none := by rw [upd_ne (Ne.symm hne)]; exact so.fnone ha'
    have ha1 : (upd H1 dx (.own a)) a = none := by rw [upd_ne (Ne.symm hne)]; exact ha'
    have so2 := so1.newCell (o := .ins (Z.cl c) dx []) (c := .ins c []) ha1 ⟨so1.fnone ha1, dx, [], upd_same, rfl, reps_nil⟩
    have up1 : Same F (upd F dx (.own a)) := same_up (so.fnone hdx)
    refine ⟨A ++ [a], upd F dx (.own a), ce ++ [.ins c []], .cell ce.length :: vs, so2, ⟨.ref a, xs, rfl, ⟨a, by rw [← so.len]; simp, rfl⟩, (r.mono (List.prefix_append _ _) up1).nohd hp⟩, by simp [l], ?_⟩
    cases e : fh (.cell ce.length :: vs) (ce ++ [.ins c []]) with
    | stuck => rw [e] at q; exact q.elim
    | exc d ds ce' =>
      rw [e] at q
      exact fun A' F' H' dx' pA eF so' xo => q A F' H' dx' (List.prefix_refl _) (up1.trans eF) (so'.cut ((List.prefix_append _ _).trans pA) so.len) xo
    | ok v ce' =>
      rw [e] at q
      cases v with
      | cell n => exact q.elim
      | exn c ds => exact q.elim
      | im d => cases d with
        | non =>
          intro A' F' H' y pA eF so' ry
          refine ⟨rep_non (Z := Z.toZx.z) ry, ?_⟩
          have hAa : A'[ce.length]? = some a := pre_get pA (by rw [← so.len]; simp)
          dsimp only at q
          split at q
          · rename_i d ds hds
            by_cases hdc : d = c ∧ ds.length = nf
            · rw [if_pos hdc] at q
              obtain ⟨rfl, hll⟩ := hdc
              obtain ⟨hF, dx', fs', hH, hfs, rr⟩ := so'.ok _ _ _ hAa hds
              have up := same_up (o := .ins (Z.cl d) dx' fs') hF
              have s2 := (so'.freeze hAa hF hH).cut (A := A) ((List.prefix_append _ _).trans pA) so.len
              have e3 : (ce'.set ce.length .dead).take ce.length = ce'.take ce.length := by
                refine List.ext_getElem? fun j => ?_
                by_cases hj : j < ce.length
                · rw [List.getElem?_take_of_lt hj, List.getElem?_take_of_lt hj, List.getElem?_set_ne (by omega)]
                · rw [List.getElem?_eq_none (by simp; omega), List.getElem?_eq_none (by simp; omega)]
              rw [e3] at s2
              refine q A _ H' (.ref a) (List.prefix_refl _) ((up1.trans eF).trans up) s2 ?_
              unfold VRep Rep
              exact ⟨a, dx', fs', rfl, upd_same, by rw [hfs, hll, ← hfl, List.take_length], rr.mono up⟩
            · rw [if_neg hdc] at q
              exact q.elim
          · exact q.elim
        | _ => exact q.elim
  · rw [if_neg hp] at q
    exact q.elim
end
end ZZ
set_option Elab.async false
set_option linter.all false
set_option maxRecDepth 100000
namespace L2
open PySem PySem.Spec
end L2
namespace ZZ
open PySem PySem.Spec L2 NdefX
end ZZ
set_option Elab.async false
set_option linter.all false
set_option maxRecDepth 100000
namespace L2
open PySem PySem.Spec PyProof.Rows
theorem DpAll.get {K : PySem.W.Frag} {H : Hp} : ∀ {zs : List V} {ps : List PyData} {i : Nat} {q : PyData}, DpAll K H zs ps → ps[i]? = some q → ∃ z, zs[i]? = some z ∧ Dp K H z q
  | _, _, i, q, .nil, h => by simp at h
  | _, _, 0, q, .cons d _, h => by
    simp only [List.getElem?_cons_zero, Option.some.injEq] at h
    subst h
    exact ⟨_, rfl, d⟩
  | _, _, i + 1, q, .cons _ t, h => by
    rw [List.getElem?_cons_succ] at h
    obtain ⟨z, h1, h2⟩ := DpAll.get t h
    exact ⟨z, by rw [List.getElem?_cons_succ]; exact h1, h2⟩
theorem DpAll.len {K : PySem.W.Frag} {H : Hp} : ∀ {zs : List V} {ps : List PyData}, DpAll K H zs ps → zs.length = ps.length
  | _, _, .nil => rfl
  | _, _, .cons _ t => by rw [List.length_cons, List.length_cons, DpAll.len t]
end L2
namespace ZZ
open PySem PySem.Spec L2
end ZZ
namespace ZZ
open PySem PySem.Spec L2
section
variable {X : Cx} {Z : Zy} {W : WX}
theorem hotUnits {k : Nat} {A : Around} (r : L2H.RoomH k A) : A.units + 64 < cLine := by have := r.un; omega
theorem c_eqH (hK : X.K = Z.K) (hu : X.A.units + 64 < cLine) : CmpK X Z W .Eq kEq := ⟨rEqD Z.K, by rw [← hK]; exact op_eqD hu, ok_eq⟩
theorem c_neH (hK : X.K = Z.K) (hu : X.A.units + 64 < cLine) : CmpK X Z W .NotEq kNe := ⟨rNeD Z.K, by rw [← hK]; exact op_neD hu, ok_ne⟩
end
end ZZ
set_option Elab.async false
set_option linter.all false
set_option maxRecDepth 100000
namespace L2
open PySem PySem.Spec PyProof.Rows
section
variable {X : Cx} {CX : CXT} {k : Nat} {f : Addr} {fd : FuncData} {ps : List Str} {sp : Sp} {E : L2.St → XK} {a b : Expr} {ta tb : TE} {pos : Pos}
def tOwnIx (K : PySem.W.Frag) (f : Addr) (sp : Sp) (E : L2.St → XK) (ta tb : TE) : TE := fun σ H Q => ta σ H fun x H1 => tb σ H1 fun y H2 => ∃ u C dx fs, x = .ref u ∧ H2 u = some (.ins C dx fs) ∧ PySem.W.findIn K (.ref C) "__getitem__" = some (some (.ref f)) ∧ sp [x, y] H2 Q (E σ)
theorem pe_ownIx (hf : PySem.W.isFn X.K (.ref f) = true) (hfi : PySem.W.fnIn X.K f = true) (ha : PE X a ta) (hb : PE X b tb) (F : FnOk X.prog X.w X.K X.mg X.base CX k f fd ps sp) (hr : Room (k + 1) X.A) (hbd : Binds X.K fd ps []) (hx : ∀ σ, PassesAt CX X σ (E σ))
    (hsl : ∀ v u, subscripted b true v u = runValue (.builtin "lifetime.subscript" ⟨[v, u], []⟩) := by with_unfolding_all (intros; rfl)) : PE X (.Subscript a b pos) (tOwnIx X.K f sp E ta tb) := by
  refine ⟨fun pins s σ H Q I h => ?_⟩
  refine Subscript_ (binT ha hb I h fun v u s2 x y H2 I2 rx ry q => ?_)
  obtain ⟨c, C, dx, fs, rfl, hc, hC, q⟩ := q
  obtain rfl : v = Value.ref c := rx
  obtain ⟨mA, O1, _⟩ := ins_get I2.hok hc
  obtain ⟨od, J, _⟩ := O1.look
  obtain ⟨m, hF⟩ := I2.fr
  refine PySem.W.sub_K hF I2.ok.mod.kin J hC hfi hf ?_ (hsl _ _)
  have hl : ([Value.ref c, u] : List Value).length = ps.length := F.len _ _ _ _ q
  have bd := hbd s2 [.ref c, u] I2.kIn (by rw [List.append_nil]; exact hl)
  rw [List.append_nil] at bd
  refine wpAny_call (codeAny_mono (F.run X.A.in1 X.stack s2 H2 ⟨[.ref c, u], []⟩ [.ref c, u] [.ref c, y] Q (E σ) hr.in1 I2.env0.in1 bd (.cons rfl (.cons ry .nil)) q) fun r s' hq => ?_)
  cases r with
  | error er => exact hx σ pins H2 s2 er s' I2 hq
  | ok fl' =>
    cases fl' with
    | ret w => exact I2.after hq
    | next => exact False.elim hq
    | brk => exact False.elim hq
    | cont => exact False.elim hq
end
section
variable {X : Cx} {o i lo hi value : Expr} {pos pos' p2 : Pos} {td ty tv tl th : TE}
/-- o[i] = value -/
def tSetIx (tv td ty : TE) : TS := fun D σ H => tv σ H fun v H1 => td σ H1 fun x H2 => ty σ H2 fun y H3 => rSetL x y v H3 fun H4 => D.nx σ H4
theorem ps_setIx (ho : PE X o td) (hi : PE X i ty) (hv : PE X value tv) (hs : swapsWith value (some (.Subscript o i pos')) pos.line X.env = pure false := by rfl) :
    PS X (.Assign [.Subscript o i pos'] value pos) (tSetIx tv td ty) := by
  refine ⟨fun pins s σ H D I h => ?_⟩
  refine wpAny_Assign_Subscript (thn (hv.run pins s σ H _ I h) fun r s1 ⟨v, H1, I1, rv, q1⟩ => thn (ho.run pins s1 σ H1 _ I1 q1) fun u s2 ⟨x, H2, I2, rx, q2⟩ => thn (hi.run pins s2 σ H2 _ I2 q2) fun iv s3 ⟨y, H3, I3, ry, q3⟩ => ?_) hs
  exact wpAny_mono (set_list pins s3 σ H3 x y v u iv r _ I3 rx ry rv q3) (fun _ s' ⟨H', I', q⟩ => ⟨σ, H', I', q⟩) fun _ _ z => z
/-- o[lo:hi] = value -/
def tSetSl (tv td tl th : TE) : TS := fun D σ H => tv σ H fun v H1 => td σ H1 fun x H2 => tPart tl σ H2 fun o1 H3 => ∃ a, o1 = some a ∧ tPart th σ H3 fun o2 H4 => ∃ c, o2 = some c ∧ ∃ l b xs ys, x = .ref l ∧ v = .ref b ∧ H4 l = some (.lst xs) ∧ H4 b = some (.lst ys) ∧ l ≠ b ∧ 0 ≤ a ∧ a ≤ c ∧ c ≤ xs.length ∧ xs.length + ys.length ≤ sizeLine ∧
  D.nx σ (upd H4 l (.lst (xs.take a.toNat ++ ys ++ xs.drop c.toNat)))
theorem ps_setSl (ho : PE X o td) (hl : PE X lo tl) (hh : PE X hi th) (hv : PE X value tv) (hs : swapsWith value (some (.Subscript o (.Slice (some lo) (some hi) none p2) pos')) pos.line X.env = pure false := by rfl) :
    PS X (.Assign [.Subscript o (.Slice (some lo) (some hi) none p2) pos'] value pos) (tSetSl tv td tl th) := by
  refine ⟨fun pins s σ H D I h => ?_⟩
  refine wpAny_Assign_Subscript (thn (hv.run pins s σ H _ I h) fun r s1 ⟨v, H1, I1, rv, q1⟩ => thn (ho.run pins s1 σ H1 _ I1 q1) fun u s2 ⟨x, H2, I2, rx, q2⟩ => ?_) hs
  refine wpAny_Slice (thn ((po_some hl).run pins s2 σ H2 _ I2 q2) fun vl s3 ⟨ol, H3, I3, pl, a, e1, q3⟩ => thn ((po_some hh).run pins s3 σ H3 _ I3 q3) fun vu s4 ⟨oh, H4, I4, pu, c, e2, l, b, xs, ys, ex, ev, hx, hy, hne, h0, h1, h2, h3, q4⟩ => ?_)
  subst e1 e2 ex ev
  rw [evalPart_none]
  refine wpAny_pure ?_
  have I5 : Inv X pins σ H4 { s4 with heap := s4.heap.push { cls := .type "slice", data := .fields #[vl, vu, .none] } } := I4.kept (t' := s4.toks) fun b ob q => Heap.get?_push_of_some _ q
  obtain rfl : u = Value.ref l := rx
  obtain rfl : r = Value.ref b := rv
  have ra : RelV (.int a) vl := by
    cases pl
    exact ⟨_, rfl⟩
  have rc : RelV (.int c) vu := by
    cases pu
    exact ⟨_, rfl⟩
  exact set_slice I5 hx hy hne (Heap.IsSliceOf.new ..) ra rc h0 h1 h2 h3 fun s' I' => ⟨σ, _, I', q4⟩
end
end L2
namespace ZZ
open PySem PySem.Spec L2
/-- v[u], v an instance of the class c with its own __getitem__ -/
def kOwnIx (c : Nat) (fh : DF) (v u : Val) : DE := fun _ ce => if isC c ce v && plainV u then fh [v, u] ce else .stuck
def sSetIx (fo fi fv : DE) : DSt := sExp fv fun v => sExp fo fun u => sExp fi fun i sl ce => match u, v, i with
  | .cell n, .im d, .im (.int k) => match ce[n]? with
    | some (.lst ds) => match ixN ds.length k with
      | some j => .nx sl (ce.set n (.lst (ds.set j d)))
      | none => .stuck
    | _ => .stuck
  | _, _, _ => .stuck
def kIntS1 (k : Int → DSt) (v : Val) : DSt := match v with
  | .im (.int a) => k a
  | _ => sStuck
def sSetSl (fo fl fh fv : DE) : DSt := sExp fv fun v => sExp fo fun u => sExp fl (kIntS1 fun a => sExp fh (kIntS1 fun c sl ce => match u, v with
  | .cell n, .im (.lst es) => match ce[n]? with
    | some (.lst ds) => if 0 ≤ a ∧ a ≤ c ∧ c ≤ ds.length ∧ ds.length + es.length ≤ LINE then .nx sl (ce.set n (.lst (ds.take a.toNat ++ es ++ ds.drop c.toNat))) else .stuck
    | _ => .stuck
  | _, _ => .stuck))
theorem kint_ok {Z : Zy} {W : WX} {A : List Addr} {F : Hp} {D : Ends} {k : Int → DSt} {v : Val} {x : V} {sl : Sl} {ce : List Cell} (r : VRep Z A F v x) (p : PostS Z A F W D (kIntS1 k v sl ce)) : ∃ a, x = .int a ∧ PostS Z A F W D (k a sl ce) := by
  unfold kIntS1 at p
  split at p
  · exact ⟨_, rep_int r, p⟩
  · exact p.elim
structure GetOk (K : PySem.W.Frag) (C f : Addr) : Prop where
  hs : PySem.W.findIn K (.ref C) "__getitem__" = some (some (.ref f))
  fn : PySem.W.isFn K (.ref f) = true
  fi : PySem.W.fnIn K f = true
section
variable {X : Cx} {Z : Zy} {W : WX} {k : Nat} {fa : Addr} {ps : List Str} {fh : DF} {p pos pos' p2 : Pos} {a b e o i lo hi value : Expr} {f g fo fi fv fl fhi : DE} {c : Nat}
theorem t_ownIx {σ : L2.St} {H : Hp} {Q : VK} (T : GetOk X.K (Z.cl c) fa) (h : tE Z W (eBin (kOwnIx c fh) f g) σ H Q) : tOwnIx X.K fa (spD Z.toZx fh 2) (WE W) (tE Z W f) (tE Z W g) σ H Q :=
  tE_imp (fun x H1 h1 => tE_imp (fun y H2 ⟨A, F, sl, ce, v, u, so, hs, rv, ru, p⟩ => by
    unfold kOwnIx at p
    by_cases hc : (isC c ce v && plainV u) = true
    · rw [if_pos hc] at p
      rw [Bool.and_eq_true] at hc
      obtain ⟨a, dx, fs, n, rfl, h1, h2⟩ := isC_rd so rv hc.1
      exact ⟨a, _, dx, fs, rfl, h1, T.hs, spD_call (sl := sl) (vs := [v, u]) so ⟨_, _, rfl, rv, _, _, rfl, ru, rfl⟩ rfl (by simp [isC_plain hc.1, hc.2]) p⟩
    · rw [if_neg hc] at p
      exact p.elim) h1) (tE2 h)
theorem de_ownIx (T : GetOk X.K (Z.cl c) fa) (G : DOk X.prog X.w X.K X.mg X.base k fa ps (spD Z.toZx fh 2)) (hr : Room (k + 1) X.A) (tw : TW X W) (ha : PE X a (tE Z W f)) (hb : PE X b (tE Z W g))
    (hsl : ∀ v u, subscripted b true v u = runValue (.builtin "lifetime.subscript" ⟨[v, u], []⟩) := by with_unfolding_all (intros; rfl)) : PE X (.Subscript a b pos) (tE Z W (eBin (kOwnIx c fh) f g)) := by
  obtain ⟨fd, F, bd⟩ := G.ex
  exact (pe_ownIx T.fn T.fi ha hb F hr bd tw hsl).weak fun σ H Q h => t_ownIx T h
theorem ds_setIx (ho : PE X o (tE Z W fo)) (hi : PE X i (tE Z W fi)) (hv : PE X value (tE Z W fv)) (hs : swapsWith value (some (.Subscript o i pos')) pos.line X.env = pure false := by rfl) : PS X (.Assign [.Subscript o i pos'] value pos) (tS Z W (sSetIx fo fi fv)) :=
  (ps_setIx ho hi hv hs).weak fun D σ H h => tE_imp (fun v H1 ⟨A, F, sl, ce, vv, so, hs, rv, p⟩ => by
    refine ⟨A, F, sl, ce, so, hs, (PostS.exp so hs p).imp fun x H2 ⟨A1, F1, ce1, vx, p1, e1, so1, rx, q1⟩ => ?_⟩
    have rv1 := rv.mono p1 e1
    have hs1 := hs.mono p1 e1
    refine ⟨A1, F1, sl, ce1, so1, hs1, (PostS.exp so1 hs1 q1).imp fun y H3 ⟨A2, F2, ce2, vy, p2, e2, so2, ry, q2⟩ => ?_⟩
    have rv2 := rv1.mono p2 e2
    have rx2 := rx.mono p2 e2
    have hs2 := hs1.mono p2 e2
    split at q2
    · rename_i n d kk _ _
      split at q2
      · rename_i ds hk
        split at q2
        · rename_i j hj
          obtain ⟨l, ws, hA, rfl, hF, h2, h3⟩ := cell_rd so2 rx2 hk
          refine ⟨l, ws, kk, j, rfl, rep_int ry, h2, by rw [← h3.length]; exact hj, ?_⟩
          exact nxS (so2.write (c := .lst (ds.set j d)) hA hF ⟨hF, _, upd_same, h3.set j rv2⟩) hs2 q2
        · exact q2.elim
      · exact q2.elim
    · exact q2.elim) (tS1 h)
theorem ds_setSl (ho : PE X o (tE Z W fo)) (hl : PE X lo (tE Z W fl)) (hh : PE X hi (tE Z W fhi)) (hv : PE X value (tE Z W fv)) (hs : swapsWith value (some (.Subscript o (.Slice (some lo) (some hi) none p2) pos')) pos.line X.env = pure false := by rfl) :
    PS X (.Assign [.Subscript o (.Slice (some lo) (some hi) none p2) pos'] value pos) (tS Z W (sSetSl fo fl fhi fv)) :=
  (ps_setSl ho hl hh hv hs).weak fun D σ H h => tE_imp (fun v H1 ⟨A, F, sl, ce, vv, so, hs, rv, p⟩ => by
    refine ⟨A, F, sl, ce, so, hs, (PostS.exp so hs p).imp fun x H2 ⟨A1, F1, ce1, vx, p1, e1, so1, rx, q1⟩ => ?_⟩
    have rv1 := rv.mono p1 e1
    have hs1 := hs.mono p1 e1
    refine ⟨A1, F1, sl, ce1, so1, hs1, (PostS.exp so1 hs1 q1).imp fun y H3 ⟨A2, F2, ce2, vy, p2, e2, so2, ry, q2⟩ => ?_⟩
    have rv2 := rv1.mono p2 e2
    have rx2 := rx.mono p2 e2
    have hs2 := hs1.mono p2 e2
    obtain ⟨a, rfl, q3⟩ := kint_ok ry q2
    refine ⟨a, rfl, a, rfl, A2, F2, sl, ce2, so2, hs2, (PostS.exp so2 hs2 q3).imp fun z H4 ⟨A3, F3, ce3, vz, p3, e3, so3, rz, q4⟩ => ?_⟩
    have rv3 := rv2.mono p3 e3
    have rx3 := rx2.mono p3 e3
    have hs3 := hs2.mono p3 e3
    obtain ⟨c, rfl, q5⟩ := kint_ok rz q4
    refine ⟨c, rfl, c, rfl, ?_⟩
    split at q5
    · split at q5
      · rename_i ds hk
        split at q5
        · rename_i hb
          obtain ⟨l, ws, hA, rfl, hF, h2, h3⟩ := cell_rd so3 rx3 hk
          unfold VRep Rep at rv3
          obtain ⟨b, ys, rfl, hb1, hb2⟩ := rv3
          have hne : l ≠ b := fun z => by
            rw [z, hb1] at hF
            cases hF
          refine ⟨l, b, ws, ys, rfl, rfl, h2, so3.sub _ _ hb1, hne, hb.1, hb.2.1, by rw [← h3.length]; exact hb.2.2.1, by rw [sizeLine_eq, ← h3.length, ← hb2.length]; exact hb.2.2.2, ?_⟩
          have rr := ((h3.take a.toNat).append (hb2.mono (Same.refl _))).append (h3.drop c.toNat)
          exact nxS (so3.write (c := .lst _) hA hF ⟨hF, _, upd_same, rr⟩) hs3 q5
        · exact q5.elim
      · exact q5.elim
    · exact q5.elim) (tS1 h)
end
end ZZ
set_option Elab.async false
set_option linter.all false
set_option maxRecDepth 100000
namespace L2
open PySem PySem.Spec PyProof.Rows
def tMethN (C : Addr) (m : Str) (n k : Nat) (sp : Sp) (gV : List V → List V → List V) (E : L2.St → XK) (ta : TE) (t tk : TA) : TE := fun σ H Q => ta σ H fun x H1 => ∃ a dx fs, x = .ref a ∧ H1 a = some (.ins C dx fs) ∧ fs.lookup m = none ∧
  t σ H1 fun vs H2 => tk σ H2 fun zs H3 => vs.length = n ∧ zs.length = k ∧ sp (gV (.ref a :: vs) zs) H3 Q (E σ)
section
variable {X : Cx} {CX : CXT} {k n : Nat} {f C : Addr} {fd : FuncData} {ps ks : List Str} {sp : Sp} {E : L2.St → XK} {x m : Str} {p pos apos : Pos} {e o : Expr} {es : List Expr} {kws : List Keyword} {ta : TE} {t tk : TA} {g : List Value → List Value → List Value} {gV : List V → List V → List V}
theorem run_fnNS {pins : List (Addr × Obj)} {σ : L2.St} {H : Hp} {s : Shared} {Q : VK} {us ws : List Value} {vs zs : List V} (F : FnOk X.prog X.w X.K X.mg X.base CX k f fd ps sp) (hr : Room k X.A) (hb : KBn X.K fd ps n ks g gV) (hx : PassesAt CX X σ (E σ))
    (I : Inv X pins σ H s) (r : Vals vs us) (rz : Vals zs ws) (l1 : vs.length = n) (l2 : zs.length = ks.length) (h : sp (gV vs zs) H Q (E σ)) : wpAny (model X.prog X.w) X.A (call (.ref f) us (ks.zip ws)) (EP X pins σ Q) X.xe s := by
  have r2 := hb.rel r rz
  refine wpAny_call (codeAny_mono (F.run X.A X.stack s H ⟨us, ks.zip ws⟩ (g us ws) (gV vs zs) Q (E σ) hr I.env0 (hb.to s us ws I.kIn (r.length.symm.trans l1) (rz.length.symm.trans l2)) r2 h) fun r s' hq => ?_)
  cases r with
  | error e => exact hx pins H s e s' I hq
  | ok fl =>
    cases fl with
    | ret u => exact I.after hq
    | next => exact False.elim hq
    | brk => exact False.elim hq
    | cont => exact False.elim hq
theorem pe_methN {pl : Sem Bool} (he : PE X o ta) (c : Cls X.K C) (hm : Meth X.K C m f) (F : FnOk X.prog X.w X.K X.mg X.base CX k f fd ps sp) (hr : Room k X.A) (hb : KBn X.K fd ps (n + 1) ks g gV) (hx : ∀ σ, PassesAt CX X σ (E σ)) (ha : PA X (e :: es) t) (hkw : PK X kws tk)
    (hall : (backToKw pos (keywordEach kws X.env)).all (·.1.isSome) = true := by rfl) (hks : (backToKw pos (keywordEach kws X.env)).filterMap (·.1) = ks := by rfl)
    (hst : starEach (e :: es) X.env = (false, eval e X.env) :: starEach es X.env := by rfl) (hpl : ((backTo pos (starEach (e :: es) X.env)).any (·.1) || (backToKw pos (keywordEach kws X.env)).any (·.1.isNone)) = false := by rfl)
    (ht : eval (.Call (.Attribute o m apos) (e :: es) kws pos) X.env = (do
      let ov ← eval o X.env
      standAt apos.atName
      let (f, first) ← holding [ov] (getMethod ov m pl)
      callWith pos f first (backTo pos (starEach (e :: es) X.env)) (backToKw pos (keywordEach kws X.env))) := by rfl) :
    PE X (.Call (.Attribute o m apos) (e :: es) kws pos) (tMethN C m n ks.length sp gV E ta t tk) := by
  refine ⟨fun pins s σ H Q I h => ?_⟩
  refine PySem.W.methodCall_KW (pl := pl) (thn (he.run pins s σ H _ I h) fun u s1 ⟨x, H1, I1, rx, a, dx, fs, ex, ea, l, q⟩ => ?_) ht
  subst ex
  obtain rfl : u = Value.ref a := rx
  refine getmeth_ok I1 ea c hm l ?_
  refine PySem.W.callWith_KW (first := [.ref a]) (h₀ := X.base) I1.ok.mod.kin hm.kp hall (thn (ha.run pos pins s1 σ H1 _ I1 q) fun us s2 ⟨vs, H2, I2, r, q2⟩ => ?_) hpl hst
  refine thn (hkw.run pos pins s2 σ H2 _ I2 q2) fun ws s3 ⟨zs, H3, I3, rz, l1, l2, q3⟩ => ⟨I3.kIn, ?_⟩
  rw [hks]
  exact run_fnNS (us := .ref a :: us) (vs := .ref a :: vs) F hr hb (hx σ) I3 (.cons rfl r) rz (by rw [List.length_cons, l1]) l2 q3
end
end L2
namespace ZZ
open PySem PySem.Spec L2
/-- o.m(.., k = v, ..): G puts the values in the parameters' order -/
def eMthK (c : Nat) (fh : DF) (G : List Val → List Val → List Val) (f : DE) (fs gs : List DE) : DE := eBind f fun v sl ce => if isC c ce v then eArgs fs (fun vs => eArgs gs fun zs _ ce => if (v :: vs).all plainV && zs.all plainV then fh (G (v :: vs) zs) ce else .stuck) sl ce else .stuck
/-- G does to values what gV does to their images -/
structure GRel (n m : Nat) (G : List Val → List Val → List Val) (gV : List V → List V → List V) (l : Nat) : Prop where
  rel : ∀ {Z : Zy} {A : List Addr} {F : Hp} {vs zs : List Val} {xs ys : List V}, VReps Z A F vs xs → VReps Z A F zs ys → vs.length = n → zs.length = m → VReps Z A F (G vs zs) (gV xs ys)
  pl : ∀ {vs zs : List Val}, vs.all plainV = true → zs.all plainV = true → vs.length = n → zs.length = m → (G vs zs).all plainV = true
  len : ∀ {vs zs : List Val}, vs.length = n → zs.length = m → (G vs zs).length = l
structure MKw (P : Program) (w : World) (K : PySem.W.Frag) (mg : Str → Option Value) (base : Heap) (Z : Zx) (k : Nat) (f : Addr) (n : Nat) (ks : List Str) (G : List Val → List Val → List Val) (fh : DF) (l : Nat) : Prop where
  ex : ∃ fd ps g gV, FnOk P w K mg base (L2N.CX P w) k f fd ps (spD Z fh l) ∧ KBn K fd ps n ks g gV ∧ GRel n ks.length G gV l
section
variable {X : Cx} {Z : Zy} {W : WX} {k n l : Nat} {fa : Addr} {ps ks : List Str} {fh : DF} {m : Str} {p pos apos : Pos} {e o : Expr} {es : List Expr} {kws : List Keyword} {f : DE} {fs gs : List DE} {c : Nat} {G : List Val → List Val → List Val} {gV : List V → List V → List V} {tk : TA}
theorem vreps_append {Z : Zy} {A : List Addr} {F : Hp} : ∀ {vs zs : List Val} {xs ys : List V}, VReps Z A F vs xs → VReps Z A F zs ys → VReps Z A F (vs ++ zs) (xs ++ ys)
  | [], zs, xs, ys, h, h2 => by
    unfold VReps at h
    subst h
    exact h2
  | v :: vs, zs, xs, ys, h, h2 => by
    obtain ⟨x, t, rfl, rx, rt⟩ := h
    exact ⟨x, t ++ ys, rfl, rx, vreps_append rt h2⟩
theorem de_methK {pl : Sem Bool} (he : PE X o (tE Z W f)) (hc : ClsOk X.K Z.toZx c) (hmt : Meth X.K (Z.cl c) m fa) (hno : m ∉ Z.fl c) (M : MKw X.prog X.w X.K X.mg X.base Z.toZx k fa (n + 1) ks G fh l) (hr : Room k X.A) (tw : TW X W) (ha : PA X (e :: es) (tArgs Z W fs)) (hkw : PK X kws (tArgs Z W gs))
    (hl : fs.length = n := by rfl) (hgl : gs.length = ks.length := by rfl) (hall : (backToKw pos (keywordEach kws X.env)).all (·.1.isSome) = true := by rfl) (hks : (backToKw pos (keywordEach kws X.env)).filterMap (·.1) = ks := by rfl)
    (hst : starEach (e :: es) X.env = (false, eval e X.env) :: starEach es X.env := by rfl) (hpl : ((backTo pos (starEach (e :: es) X.env)).any (·.1) || (backToKw pos (keywordEach kws X.env)).any (·.1.isNone)) = false := by rfl)
    (ht : eval (.Call (.Attribute o m apos) (e :: es) kws pos) X.env = (do
      let ov ← eval o X.env
      standAt apos.atName
      let (f, first) ← holding [ov] (getMethod ov m pl)
      callWith pos f first (backTo pos (starEach (e :: es) X.env)) (backToKw pos (keywordEach kws X.env))) := by rfl) : PE X (.Call (.Attribute o m apos) (e :: es) kws pos) (tE Z W (eMthK c fh G f fs gs)) := by
  obtain ⟨fd, ps, g, gV, F0, hb, R⟩ := M.ex
  exact (pe_methN he hc.cls hmt F0 hr hb tw ha hkw hall hks hst hpl ht).weak fun σ H Q q => tE_imp (fun x H1 ⟨A, F, sl, ce, v, so, hs, r, p⟩ => by
    by_cases hi : isC c ce v = true
    · rw [if_pos hi] at p
      obtain ⟨a, dx, fs', n', rfl, h1, h2⟩ := isC_rd so r hi
      refine ⟨a, dx, fs', rfl, h1, take_lookup h2 hno, tArgs_imp (fun xs H2 ⟨A2, F2, ce2, vs, p2, e2, s2, r2, l2, q2⟩ => ?_) (tArgs_ok so hs p)⟩
      refine tArgs_imp (fun ys H3 ⟨A3, F3, ce3, zs, p3, e3, s3, r3, l3, q3⟩ => ?_) (tArgs_ok s2 (hs.mono p2 e2) q2)
      have r4 : VReps Z A3 F3 (v :: vs) (.ref a :: xs) := ⟨_, _, rfl, (r.mono p2 e2).mono p3 e3, r2.mono p3 e3⟩
      have hn : (v :: vs).length = n + 1 := by rw [List.length_cons, l2, hl]
      refine ⟨by rw [← r2.length, l2, hl], by rw [← r3.length, l3, hgl], ?_⟩
      by_cases hp : ((v :: vs).all plainV && zs.all plainV) = true
      · rw [if_pos hp] at q3
        rw [Bool.and_eq_true] at hp
        exact spD_call (sl := sl) (vs := G (v :: vs) zs) s3 (R.rel r4 r3 hn (by rw [l3, hgl])) (R.len hn (by rw [l3, hgl])) (R.pl hp.1 hp.2 hn (by rw [l3, hgl])) q3
      · rw [if_neg hp] at q3
        exact q3.elim
    · rw [if_neg hi] at p
      exact p.elim) (tE1 q)
end
abbrev gApp (vs zs : List Val) : List Val := vs ++ zs
theorem grel_app {n m : Nat} : GRel n m gApp (fun vs zs => vs ++ zs) (n + m) := ⟨fun r1 r2 _ _ => vreps_append r1 r2, fun h1 h2 _ _ => by rw [gApp, List.all_append, h1, h2]; rfl, fun h1 h2 => by rw [gApp, List.length_append, h1, h2]⟩
section
variable {X : Cx} {Z : Zy} {W : WX} {p pn pos : Pos} {a b : Expr} {f g : DE} {nm x : Str}
theorem de_gstr {s : Str} (hm : ∃ t, X.mg x = some (.str s t)) (hg : Gl X x := by rfl) (hdb : (x == ("__debug__" : Str)) = false := by decide) : PE X (.Name x p) (tE Z W (eC (.str s))) := by
  obtain ⟨t, hm⟩ := hm
  exact (pe_glob (v := .str s) hg hm ⟨t, rfl⟩ hdb).weak fun σ H Q ⟨A, F, sl, ce, so, hs, p⟩ => fin_flat so p repS
theorem de_clsConI {C : Addr} {s : Int} (hm : X.mg x = some (.ref C)) (r : ClX.CRead X.K C (.type "type")) (c : ∃ t, ClX.CVal X.K C (.type "type") nm (.int s) (.int s t)) (hg : Gl X x := by rfl) (hdb : (x == ("__debug__" : Str)) = false := by decide)
    (hb : attributeBase (.Name x pn) nm X.env (eval (.Name x pn) X.env) = eval (.Name x pn) X.env := by rfl) : PE X (.Attribute (.Name x pn) nm pos) (tE Z W (eC (.int s))) :=
  (ClX.pe_cval (pe_glob (v := .ref C) hg hm rfl hdb) hb).weak fun σ H Q ⟨A, F, sl, ce, so, hs, p⟩ => by
    obtain ⟨t, c⟩ := c
    exact ⟨C, _, _, _, rfl, r, c, fin_flat so p repI⟩
/-- a list times a small number -/
def kRepL (v u : Val) : DE := fun _ ce => match v, u with
  | .im (.lst ds), .im (.int n) => if ds.length ≤ 1000 ∧ -1000 ≤ n ∧ n ≤ 1000 then .ok (.im (.lst (List.replicate n.toNat ds).flatten)) ce else .stuck
  | _, _ => .stuck
theorem reps_flat {Z : Zx} {F : Hp} {ds : List D} {vs : List V} (h : Reps Z F ds vs) : ∀ n : Nat, Reps Z F (List.replicate n ds).flatten (List.replicate n vs).flatten
  | 0 => reps_nil
  | n + 1 => by
    rw [List.replicate_succ, List.replicate_succ, List.flatten_cons, List.flatten_cons]
    exact h.append (reps_flat h n)
theorem de_repL (ha : PE X a (tE Z W f)) (hb : PE X b (tE Z W g)) : PE X (.BinOp a .Mult b pos) (tE Z W (eBin kRepL f g)) := de_op op_rep (fun A F sl ce v u x y H σ Q so hs rv ru p => by
  unfold kRepL at p
  split at p
  · rename_i ds n
    split at p
    · rename_i hc
      unfold VRep Rep at rv
      obtain ⟨l, vs, rfl, h1, h2⟩ := rv
      rw [rep_int ru]
      have hl : vs.length = ds.length := h2.length.symm
      have hm : ds.length * n.toNat ≤ 1000 * 1000 := Nat.mul_le_mul hc.1 (by omega)
      refine ⟨l, n, vs, rfl, rfl, so.sub _ _ h1, by omega, by omega, by rw [hl, sizeLine_eq]; show _ ≤ 16777216; omega, fun q hq => fin_newL so p (reps_flat h2 _) hq⟩
    · exact p.elim
  · exact p.elim) ha hb
end
end ZZ
namespace ZZ
open PySem PySem.Spec L2
section
variable {P : Program} {w : World} {K : PySem.W.Frag} {mg : Str → Option Value} {base : Heap} {Z : Zx} {x qual : Str} {st : Stmt} {f : Addr} {fd : FuncData} {N ps : List Str} {k nsl n : Nat} {body : DSt} {dvs : List V} {kws : List (Str × V)}
theorem fnDD (Fn : FunD K x qual (defArgs st) (defBody st) (defScope st) dvs kws f fd) (S : FnScope N ps (defScope st)) (hN : N.length = nsl) (hn : ps.length = n)
    (hbody : ∀ (cdv : Value) (A : Around) (outer : List Env) (s : Shared) (H : Hp) (E : XK), Room k (A.deeper (PyProof.Rows.envOfC qual (defScope st) s.heap.objs.size f cdv)) →
      PSs (cxOf (L2N.CX P w) P w K mg base N qual (defScope st) f cdv A outer s H E) (defBody st) (tS Z.z (fun cls d _ H => E cls d H) body)) : FnOk P w K mg base (L2N.CX P w) (k + 1) f fd ps (spD Z (mkD nsl body) n) := by
  subst hN hn
  obtain ⟨oc, od, dV, kV, doc, pm, an, cdv, ct, osl, rfl, lk, hcd, _, _⟩ := Fn.ex
  refine fn_of lk hcd S (fun vs H Q E ⟨A, F, ce, ds, so, r, l, p⟩ => by rw [← r.length]; exact l) fun A outer s H vs Q E hr ⟨A0, F0, ce, ds, so, r, l, p⟩ => ⟨_, hbody cdv A outer s H E hr, A0, F0, _, ce, so, vreps_start r, ?_⟩
  unfold mkD at p
  have hn := so.len
  cases e : body (ds.map some ++ List.replicate (N.length - ds.length) none) ce with
  | nx sl ce' => rw [e] at p; exact fun A' F' H' σ' pA eF so' hs' => fin_ok hn pA eF so' (show VRep Z.z A' F' (.im .non) .non by unfold VRep Rep; rfl) p
  | rt v ce' => rw [e] at p; exact fun A' F' H' x pA eF so' r' => fin_ok hn pA eF so' r' p
  | exc c es sl ce' => rw [e] at p; exact fun A' F' H' σ' dx pA eF so' hs' xo => p A0 F' H' dx (List.prefix_refl _) eF (so'.cut pA hn) xo
  | bk sl ce' => rw [e] at p; exact p.elim
  | ct sl ce' => rw [e] at p; exact p.elim
  | stuck => rw [e] at p; exact p.elim
/-- one default, None; all is written -/
theorem FunD.all1 (F : FunD K x qual (defArgs st) (defBody st) (defScope st) [.non] kws f fd) (h : ∀ (T : Addr) (kV doc pm : Value) (an : Option Addr) (cdv ct : Value) (us its : List Value), us.length = ps.length → its.length = 1 →
      ∃ k, bindArgs (PySem.W.fnOf x qual (defArgs st) (defBody st) (defScope st) (.ref T) kV doc pm an cdv ct) ⟨us, []⟩ = seqItems? (.ref T) >>= k ∧ k (some its.toArray) = pure (ps.zip (us ++ its.drop 1))) : Binds K fd ps [] := by
  obtain ⟨ds, h1, h2⟩ := F.binds1 ps.length 1 (by simp) rfl h
  cases h1
  exact h2
end
end ZZ
set_option Elab.async false
set_option linter.all false
set_option maxRecDepth 100000
namespace ZZ
open PySem PySem.Spec L2
end ZZ
set_option Elab.async false
set_option linter.all false
set_option maxRecDepth 100000
namespace ZZ
open PySem PySem.Spec L2
end ZZ
set_option Elab.async false
set_option linter.all false
set_option maxRecDepth 100000
namespace ZZ
open PySem PySem.Spec L2
theorem cxUpN {P : Program} {w : World} : StX.CXUp (L2N.CX P w) := by
  rintro outer s H s2 H2 E e s' un kp ho ⟨a, B, H', cls, d, ea, fl, hok, ub, na, os, ag, he⟩
  refine ⟨a, B, H', cls, d, ea, fl, hok, ⟨fun b o q n hb => ub.keep b o (kp b o q) (un.free b o q n (by simp)) hb, fun b o q hb => ub.slot b o (kp b o q) hb, fun b o q n => ub.free b o (kp b o q) (un.free b o q n (by simp)),
    fun b o q hb => ub.there b o (kp b o q) hb, fun b xs q => ub.tups b xs (un.tups b xs q), fun b o xs q => ub.frzs b o xs (un.frzs b o xs q), fun b ps q => ?_⟩, na, os.trans ho, ag, he⟩
  obtain ⟨m1, e1⟩ := un.tbls b ps q
  obtain ⟨m2, e2⟩ := ub.tbls b _ e1
  exact ⟨m1 ++ m2, by rw [e2, Array.append_assoc]⟩
theorem bind_star0 {B : List Value → Sem (List (Str × Value))} {pv : Str} (h0 : B [] = (newTuple [] >>= fun t => pure [(pv, t)])) (h1 : ∀ r rs, B (r :: rs) = (newTuple (r :: rs) >>= fun t => pure [(pv, t)])) :
    ∀ us rest : List Value, us.length = ([] : List Str).length → B (us ++ rest) = (newTuple rest >>= fun t => pure (([] : List Str).zip us ++ [(pv, t)]))
  | [], [], _ => h0
  | [], r :: rs, _ => h1 r rs
structure FunS (K : PySem.W.Frag) (x qual : Str) (st : Stmt) (ps : List Str) (pv : Str) (f : Addr) : Prop where
  ex : ∃ (oc : Value) (od : Option Addr) (dV kV doc pm : Value) (an : Option Addr) (cdv ct : Value) (osl : Array (Option Value)), K.lookup f = some ⟨oc, od, .func (PySem.W.fnOf x qual (defArgs st) (defBody st) (defScope st) dV kV doc pm an cdv ct), osl⟩ ∧ PySem.W.codeIn K cdv qual = true ∧
    ∀ us rest : List Value, us.length = ps.length → bindArgs (PySem.W.fnOf x qual (defArgs st) (defBody st) (defScope st) dV kV doc pm an cdv ct) ⟨us ++ rest, []⟩ = (newTuple rest >>= fun t => pure (ps.zip us ++ [(pv, t)]))
  kp : PySem.W.keepIn K (.ref f) = true
/-- the values left over are a tuple -/
def mkDS (nsl n : Nat) (body : DSt) : DF := fun ds ce => match ims (ds.drop n) with
  | some xs => if n ≤ ds.length ∧ xs.length ≤ LINE then mkD nsl body (ds.take n ++ [.im (.tup xs)]) ce else .stuck
  | none => .stuck
def spS (Z : Zx) (fh : DF) : Sp := fun vs H Q E => ∃ A F ce ds, SO Z A F ce H ∧ VReps Z.z A F ds vs ∧ PostE Z.z A F (fun c d _ H => E c d H) [] Q (fh ds ce)
section
variable {Z : Zx} {A : List Addr} {F : Hp}
theorem VReps.split {Y : Zy} : ∀ (n : Nat) {ds : List Val} {vs : List V}, VReps Y A F ds vs → VReps Y A F (ds.take n) (vs.take n) ∧ VReps Y A F (ds.drop n) (vs.drop n)
  | 0, ds, vs, h => by
    rw [List.take_zero, List.take_zero]
    exact ⟨by unfold VReps; rfl, by simpa using h⟩
  | n + 1, [], vs, h => by
    unfold VReps at h
    subst h
    exact ⟨by unfold VReps; rfl, by unfold VReps; rfl⟩
  | n + 1, d :: ds, vs, h => by
    obtain ⟨x, r, rfl, h1, h2⟩ := h
    obtain ⟨a, b⟩ := VReps.split n h2
    exact ⟨⟨x, r.take n, rfl, h1, a⟩, b⟩
theorem VReps.append {Y : Zy} : ∀ {ds es : List Val} {vs ws : List V}, VReps Y A F ds vs → VReps Y A F es ws → VReps Y A F (ds ++ es) (vs ++ ws)
  | [], es, vs, ws, h, h' => by
    unfold VReps at h
    subst h
    exact h'
  | d :: ds, es, vs, ws, h, h' => by
    obtain ⟨x, r, rfl, h1, h2⟩ := h
    exact ⟨x, r ++ ws, rfl, h1, VReps.append h2 h'⟩
end
section
variable {P : Program} {w : World} {K : PySem.W.Frag} {mg : Str → Option Value} {base : Heap}
theorem fnS {Z : Zx} {x qual pv : Str} {st : Stmt} {f : Addr} {N ps : List Str} {k nsl n : Nat} {body : DSt} (Fn : FunS K x qual st ps pv f) (S : FnScope N (ps ++ [pv]) (defScope st)) (hN : N.length = nsl) (hn : ps.length = n)
    (hbody : ∀ (cdv : Value) (A : Around) (outer : List Env) (s : Shared) (H : Hp) (E : XK), Room k (A.deeper (PyProof.Rows.envOfC qual (defScope st) s.heap.objs.size f cdv)) →
      PSs (cxOf (L2N.CX P w) P w K mg base N qual (defScope st) f cdv A outer s H E) (defBody st) (tS Z.z (fun cls d _ H => E cls d H) body)) : FnR P w K mg base (L2N.CX P w) (k + 1) f (spS Z (mkDS nsl n body)) := by
  subst hN hn
  obtain ⟨oc, od, dV, kV, doc, pm, an, cdv, ct, osl, lk, hcd, hb⟩ := Fn.ex
  refine (StX.fn_star (sp := spD Z (mkD N.length body) (ps.length + 1)) lk hcd S cxUpN hb fun A outer s H vs Q E hr ⟨A0, F0, ce, ds, so, r, l, p⟩ => ⟨_, hbody cdv A outer s H E hr, A0, F0, _, ce, so, vreps_start r, ?_⟩).imp fun vs H Q E ⟨A, F, ce, ds, so, r, p⟩ => ?_
  · unfold mkD at p
    have hn := so.len
    cases e : body (ds.map some ++ List.replicate (N.length - ds.length) none) ce with
    | nx sl ce' => rw [e] at p; exact fun A' F' H' σ' pA eF so' hs' => fin_ok hn pA eF so' (show VRep Z.z A' F' (.im .non) .non by unfold VRep Rep; rfl) p
    | rt v ce' => rw [e] at p; exact fun A' F' H' x pA eF so' r' => fin_ok hn pA eF so' r' p
    | exc c es sl ce' => rw [e] at p; exact fun A' F' H' σ' dx pA eF so' hs' xo => p A0 F' H' dx (List.prefix_refl _) eF (so'.cut pA hn) xo
    | bk sl ce' => rw [e] at p; exact p.elim
    | ct sl ce' => rw [e] at p; exact p.elim
    | stuck => rw [e] at p; exact p.elim
  · unfold mkDS at p
    split at p
    · rename_i xs e
      split at p
      · rename_i h
        obtain ⟨r1, r2⟩ := VReps.split ps.length r
        have rr := ims_rd (Z := Z.z) r2 e
        have hl := r.length
        refine ⟨vs.take ps.length, vs.drop ps.length, (List.take_append_drop _ _).symm, ?_, ?_, fun q hq => ?_⟩
        · rw [List.length_take]
          omega
        · rw [← rr.length, sizeLine_eq]
          exact h.2
        · have up := same_up (o := .tup (vs.drop ps.length)) (so.fnone hq)
          refine ⟨A, upd F q (.tup (vs.drop ps.length)), ce, ds.take ps.length ++ [.im (.tup xs)], so.new hq, (r1.mono (List.prefix_refl _) up).append ⟨.ref q, [], rfl, ?_, by unfold VReps; rfl⟩, ?_, ?_⟩
          · unfold VRep Rep
            exact ⟨q, _, rfl, .inl (.inl upd_same), rr.mono up⟩
          · rw [List.length_append, List.length_take]
            simp
            omega
          · exact p.mono (List.prefix_refl _) up
      · exact p.elim
    · exact p.elim
/-- a def with a star parameter shows fh -/
structure DOkS (P : Program) (w : World) (K : PySem.W.Frag) (mg : Str → Option Value) (base : Heap) (k : Nat) (f : Addr) (sp : Sp) : Prop where
  F : FnR P w K mg base (L2N.CX P w) k f sp
  kp : PySem.W.keepIn K (.ref f) = true
end
section
variable {X : Cx} {Z : Zy} {W : WX} {k : Nat} {fa : Addr} {fh : DF} {x : Str} {p pos : Pos} {e : Expr} {es : List Expr} {fs : List DE}
theorem de_callS (G : DOkS X.prog X.w X.K X.mg X.base k fa (spS Z.toZx fh)) (hr : Room k X.A) (hm : X.mg x = some (.ref fa)) (tw : TW X W) (ha : PA X (e :: es) (tArgs Z W fs))
    (hg : Gl X x := by rfl) (hdb : (x == ("__debug__" : Str)) = false := by decide) (he : starEach (e :: es) X.env = (false, eval e X.env) :: starEach es X.env := by rfl) (hpl : (backTo pos (starEach es X.env)).any (·.1) = false := by rfl) :
    PE X (.Call (.Name x p) (e :: es) [] pos) (tE Z W (eArgs fs (kCall fh))) := by
  refine PE.weak (t := fun σ H Q => tArgs Z W fs σ H fun vs H1 => spS Z.toZx fh vs H1 Q (WE W σ)) ⟨fun pins s σ H Q I h => ?_⟩ fun σ H Q h => tArgs_imp (fun xs H1 ⟨A, F, sl, ce, vs, so, hs, r, l, q⟩ => by
    unfold kCall at q
    by_cases hp : vs.all plainV = true
    · rw [if_pos hp] at q
      refine ⟨A, F, ce, vs, so, r.nohd hp, ?_⟩
      cases e : fh vs ce with
      | ok v ce' => rw [e] at q; exact fun A' F' H' x pA eF so' r' => q A' F' H' x pA eF so' (vrep_z rfl r')
      | exc c ds ce' => rw [e] at q; exact q
      | stuck => rw [e] at q; exact q
    · rw [if_neg hp] at q
      exact q.elim) (tN h)
  refine wpAny_Call_Name_kw (ld_glob I hg hm ?_ hdb)
  refine PySem.W.callWith_K (h₀ := X.base) I.ok.mod.kin G.kp (thn (ha.run pos pins s σ H _ I h) fun us s1 ⟨vs, H1, I1, r, q⟩ => ⟨I1.kIn, ?_⟩) he hpl
  exact wpAny_call (codeAny_mono (G.F X.A X.stack s1 H1 us vs Q (WE W σ) hr I1.env0 r q) fun r s' hq => by
    cases r with
    | error e => exact tw σ pins H1 s1 e s' I1 hq
    | ok fl =>
      cases fl with
      | ret u => exact I1.after hq
      | next => exact False.elim hq
      | brk => exact False.elim hq
      | cont => exact False.elim hq)
end
end ZZ
set_option Elab.async false
set_option linter.all false
set_option maxRecDepth 100000
set_option maxHeartbeats 2000000
namespace L2N
open PySem PySem.Spec PyProof.Rows L2
structure Cl where
  c : Value
  i : Option Nat
  ts : Addr → Value → Option Addr → TS
/-- what stands behind a clause's suite: its name is gone -/
def bhd (io : Option Nat) (D : Ends) : Ends := match io with
  | none => D
  | some i => { nx := fun σ' H' => D.nx (σ'.set i none) H', rt := D.rt, bk := fun σ' H' => D.bk (σ'.set i none) H', ct := fun σ' H' => D.ct (σ'.set i none) H' }
def nmd (io : Option Nat) (σ : L2.St) (a : Addr) : L2.St := match io with
  | none => σ
  | some i => σ.set i (some (.ref a))
def wMn (K : PySem.W.Frag) (Wout : WX) (D : Ends) : List Cl → WX
  | [] => Wout
  | k :: r => fun cls d σ H => ∃ b, PySem.W.exmOne K cls k.c = some b ∧ (b = true → ∀ a, H a = none → k.ts a cls d (bhd k.i D) (nmd k.i σ a) H) ∧ (b = false → wMn K Wout D r cls d σ H)
inductive HdsN (X : Cx) : List ExceptHandler → List Cl → Prop
  | nil : HdsN X [] []
  | cons {x : Str} {c : Value} {ts : Addr → Value → Option Addr → TS} {b₀ : Stmt} {suite : List Stmt} {np pos' : Pos} {hds : List ExceptHandler} {l : List Cl} (hc : Names X x c)
      (hsu : ∀ (a : Addr) (oe : Obj) (cls : Value) (d : Option Addr) (pn : List (Addr × Obj)), Zn cls d oe → (∃ vs, oe.data = .fields vs) → PSs (X.suite a ((a, oe) :: pn)) (b₀ :: suite) (ts a cls d)) (r : HdsN X hds l) :
      HdsN X (.ExceptHandler (some (.Name x np)) none (b₀ :: suite) pos' :: hds) (⟨c, none, ts⟩ :: l)
  | named {x n : Str} {i : Nat} {c : Value} {ts : Addr → Value → Option Addr → TS} {b₀ : Stmt} {suite : List Stmt} {np pos' : Pos} {hds : List ExceptHandler} {l : List Cl} (hN : X.N.Nodup) (hi : X.N[i]? = some n) (hln : X.env.kindOf n = some .local) (hc : Names X x c)
      (hsu : ∀ (a : Addr) (oe : Obj) (cls : Value) (d : Option Addr) (pn : List (Addr × Obj)), Zn cls d oe → (∃ vs, oe.data = .fields vs) → PSs (X.suite a ((a, oe) :: pn)) (b₀ :: suite) (ts a cls d)) (r : HdsN X hds l) :
      HdsN X (.ExceptHandler (some (.Name x np)) (some n) (b₀ :: suite) pos' :: hds) (⟨c, some i, ts⟩ :: l)
section
variable {X : Cx} {body : List Stmt} {h₀ : ExceptHandler} {hds : List ExceptHandler} {l : List Cl} {pos : Pos} {tb : WX → TS} {Wout : WX}
theorem ps_try_mn (hs : X.stack = X.env :: X.outer) (hf : X.env.frame = some X.env.locals) (tk : Takes X Wout)
    (hb : ∀ (W : WX) (pn : List (Addr × Obj)) (xe : Value → Shared → Prop), Takes (X.tr pn xe) W → PassesOwn (model X.prog X.w) X.A X.env xe → PSs (X.tr pn xe) body (tb W))
    (hh : HdsN X (h₀ :: hds) l) : PS X (.Try body (h₀ :: hds) [] [] pos) (fun D σ H => tb (wMn X.K Wout D l) D σ H) := by
  refine ⟨fun pins s σ H D I h => ?_⟩
  have ok := I.ok
  have hfr : X.A.frames = some (X.env :: X.outer) := by rw [ok.frames, hs]
  refine wpAny_Try_except ?_
  refine wpAny_mono ((hb (wMn X.K Wout D l) (X.pn ++ pins) (fun e s₁ => wpAny (model X.prog X.w) X.A (noteFrame e X.env) (fun _ s₂ => wpAny (model X.prog X.w) X.A (setFlight e none) (fun _ s₃ =>
    wpAny (model X.prog X.w) X.A (handleBy e X.env (h₀ :: hds)) (SP X pins D) X.xe s₃) X.xe s₂) X.xe s₁) (fun u s' xx => ?_) PassesOwn.looking).run [] s σ H D (I.toTry _) h) (fun f s1 hsp => ?_) (fun e s1 he => he)
  · obtain ⟨a, B, sI, pins', σ', H', cls, d, rfl, J', nb, up, sky, na, os, ag, w⟩ := xx
    have J : Inv X pins σ' H' sI := J'.ofTry ok
    have sky' : Sky B (X.env :: X.outer) a (Zn cls d) X.env.locals s'.heap := by rw [← hs]; exact sky
    show wpAny (model X.prog X.w) X.A (noteFrame (.ref a) X.env) _ _ _
    refine Sky.land Zn.steady hfr hf sky' fun h3 fl3 up3 => ?_
    have J3 : Inv X pins σ' H' { s' with heap := h3 } := J.landed nb fl3.1 (up.trans up3) os ag
    obtain ⟨oe3, vs3, he3, hz3, hd3⟩ := fl3.there
    have notFr : ∀ {h : Heap} {o : Obj} {vs : Array Value}, h.FunFrames B (X.env :: X.outer) → h.get? a = some o → o.data = .fields vs → a ∉ frs (X.env :: X.outer) := fun {h o vs} ff e dd hm => by
      obtain ⟨_, o', e', hnf⟩ := ff.mem hm
      rw [e] at e'; cases e'
      exact hnf _ dd
    have nfr := notFr fl3.2.2.1 he3 hd3
    have nL : a ≠ X.env.locals := fun z => nfr (List.mem_filterMap.mpr ⟨X.env, List.mem_cons_self, by rw [hf, z]⟩)
    have nF : a ∉ X.fs := fun hm => by
      obtain ⟨e, he, q⟩ := List.mem_filterMap.mp hm
      exact nfr (List.mem_filterMap.mpr ⟨e, List.mem_cons_of_mem _ he, q⟩)
    have S3 := J3.suite he3 hd3 na nL nF
    have test : ∀ {x : Str} {c : Value} {np : Pos} {Q : Value → Shared → Prop} {E : Value → Shared → Prop}, Names X x c → Q c { s' with heap := h3 } → wpAny (model X.prog X.w) (X.A.mark (some (.ref a))) (eval (.Name x np) X.env) Q E { s' with heap := h3 } := fun {x c np Q E} hc q => by
      obtain ⟨hg, hdbg, hm | ⟨hm, hv, hnn⟩⟩ := hc
      · exact ld_glob (X := X.suite a ((a, oe3) :: (X.pn ++ pins))) S3 hg hm q hdbg
      · exact ld_blt (X := X.suite a ((a, oe3) :: (X.pn ++ pins))) S3 hg hm hv q hnn hdbg
    have LT : PySem.W.Looks (model X.prog X.w) h3 (typeOf (.ref a)) cls := fun A Q E s k q => wpAny_typeOf_ref (k _ _ he3) (by rw [hz3.1]; exact q)
    have go : ∀ {hds' : List ExceptHandler} {l' : List Cl}, HdsN X hds' l' → wMn X.K Wout D l' cls d σ' H' →
        wpAny (model X.prog X.w) X.A (handleBy (.ref a) X.env hds') (SP X pins D) X.xe { s' with heap := h3 } := by
      intro hds' l' hk
      induction hk with
      | nil =>
        intro w
        refine wpAny_handleBy_nil ?_
        obtain ⟨k1, k2, k3, oe, vs, T, oT, ts', he, hz, hd, h1, hr⟩ := id fl3
        unfold PySem.passOn
        refine wpAny_bind (wpAny_field he hd h1 ?_)
        rw [if_neg (show ¬ ((Value.ref T == Value.none) = true) from by simp)]
        have fin : wpAny (model X.prog X.w) X.A (setFlight (.ref a) X.env.frame) (fun _ s4 => wpAny (model X.prog X.w) X.A (throw (.ref a) : Sem Flow) (SP X pins D) X.xe s4) X.xe { s' with heap := h3 } := by
          rw [hf]
          refine HandSPX.setFlight_upZ fl3 fun h4 hh4 up4 => wpAny_throw (tk _ _ ?_)
          exact ⟨a, B, sI, pins, σ', H', cls, d, rfl, J, nb, (up.trans up3).trans up4, .inr (.inr (by rw [hs]; exact hh4)), na, os, ag, w⟩
        first
          | exact wpAny_bind (wpAny_pure (wpAny_bind fin))
          | exact wpAny_bind fin
      | @cons x c ts b₀ suite np pos' hds2 l2 hc hsu r ih =>
        intro w
        obtain ⟨b, hb1, hyes, hno⟩ := w
        refine wpAny_handleBy_cons (codeAny_handlers_test ?_) (by intro q; cases q)
        have LM := PySem.W.exm_one (M := model X.prog X.w) (J3.kIn) LT hb1
        refine test hc (LM.here ?_)
        cases b with
        | true =>
          refine codeAny_handlers_suite ?_
          refine HandSPX.lands_againZ fl3 fun h4 fl4 up4 => ?_
          have J4 : Inv X pins σ' H' { s' with heap := h4 } := J.landed nb fl4.1 ((up.trans up3).trans up4) os ag
          obtain ⟨oe4, vs4, he4, hz4, hd4⟩ := fl4.there
          have S4 := J4.suite he4 hd4 na nL nF
          refine wpAny_mono ((hsu a oe4 cls d (X.pn ++ pins) hz4 ⟨_, hd4⟩).run [] _ _ H' _ S4 (hyes rfl a na)) (fun f s6 hsp => ?_) (fun _ _ z => False.elim z)
          cases f with
          | next =>
            obtain ⟨σ6, H6, S6, q6⟩ := hsp
            exact ⟨_, _, S6.unsuite ok, q6⟩
          | brk =>
            obtain ⟨σ6, H6, S6, q6⟩ := hsp
            exact ⟨_, _, S6.unsuite ok, q6⟩
          | cont =>
            obtain ⟨σ6, H6, S6, q6⟩ := hsp
            exact ⟨_, _, S6.unsuite ok, q6⟩
          | ret u =>
            obtain ⟨v6, σ6, H6, S6, r6, q6⟩ := hsp
            exact ⟨_, _, _, S6.unsuite ok, r6, q6⟩
        | false =>
          show wpAny _ X.A (handleBy (.ref a) X.env hds2) _ _ _
          exact ih (hno rfl)
      | @named x n i c ts b₀ suite np pos' hds2 l2 hN hi hln hc hsu r ih =>
        intro w
        have hloc : Loc X.env.scope n := .inl hln
        obtain ⟨b, hb1, hyes, hno⟩ := w
        refine wpAny_handleBy_cons (codeAny_handlers_test ?_) (by intro q; cases q)
        have LM := PySem.W.exm_one (M := model X.prog X.w) (J3.kIn) LT hb1
        refine test hc (LM.here ?_)
        cases b with
        | true =>
          refine codeAny_handlers_suite_as ?_
          refine HandSPX.lands_againZ fl3 fun h4 fl4 up4 => ?_
          have J4 : Inv X pins σ' H' { s' with heap := h4 } := J.landed nb fl4.1 ((up.trans up3).trans up4) os ag
          obtain ⟨oe4, vs4, he4, hz4, hd4⟩ := fl4.there
          have S4 := J4.suite he4 hd4 na nL nF
          refine store_ok (X := X.suite a ((a, oe4) :: (X.pn ++ pins))) (v := .ref a) S4 hN hi hloc rfl (fun s5 S5 => ?_) (.inr hln)
          refine wpAny_mono ((hsu a oe4 cls d (X.pn ++ pins) hz4 ⟨_, hd4⟩).run [] s5 _ H' _ S5 (hyes rfl a na)) (fun f s6 hsp => ?_) (fun _ _ z => False.elim z)
          have end_ : ∀ {σ6 : L2.St} {H6 : Hp} {Q : Shared → Prop}, Inv (X.suite a ((a, oe4) :: (X.pn ++ pins))) [] σ6 H6 s6 → (∀ s7, Inv X pins (σ6.set i none) H6 s7 → Q s7) →
              wpAny (model X.prog X.w) X.A (do bindName X.env n .none; unbindBehindTheSuite X.env n pos') (fun _ s7 => Q s7) X.xe s6 := fun {σ6 H6 Q} S6 hq => gone_ok (S6.unsuite ok) hN hi hln hq
          cases f with
          | next =>
            obtain ⟨σ6, H6, S6, q6⟩ := hsp
            exact end_ S6 fun s7 J7 => ⟨_, _, J7, q6⟩
          | brk =>
            obtain ⟨σ6, H6, S6, q6⟩ := hsp
            exact end_ S6 fun s7 J7 => ⟨_, _, J7, q6⟩
          | cont =>
            obtain ⟨σ6, H6, S6, q6⟩ := hsp
            exact end_ S6 fun s7 J7 => ⟨_, _, J7, q6⟩
          | ret u =>
            obtain ⟨v6, σ6, H6, S6, r6, q6⟩ := hsp
            exact end_ S6 fun s7 J7 => ⟨_, _, _, J7, r6, q6⟩
        | false =>
          show wpAny _ X.A (handleBy (.ref a) X.env hds2) _ _ _
          exact ih (hno rfl)
    exact go hh w
  · cases f with
    | next =>
      obtain ⟨σ', H', J', q⟩ := hsp
      exact wpAny_execs_nil ⟨σ', H', J'.ofTry ok, q⟩
    | brk =>
      obtain ⟨σ', H', J', q⟩ := hsp
      exact ⟨σ', H', J'.ofTry ok, q⟩
    | cont =>
      obtain ⟨σ', H', J', q⟩ := hsp
      exact ⟨σ', H', J'.ofTry ok, q⟩
    | ret u =>
      obtain ⟨v, σ', H', J', r, q⟩ := hsp
      exact ⟨v, σ', H', J'.ofTry ok, r, q⟩
end
end L2N
namespace ZZ
open PySem PySem.Spec L2
/-- clauses: which classes, the name's slot, the suite -/
def hdl (c : Nat) (ds : List D) (sl1 : Sl) (ce1 : List Cell) : List ((Nat → Bool) × Option Nat × DSt) → Out
  | [] => .exc c ds sl1 ce1
  | (sub, io, fs) :: r => if sub c then offD io (fs (match io with
      | some i => sl1.set i (some (.exn c ds))
      | none => sl1) ce1) else hdl c ds sl1 ce1 r
def sTryM (nE : Nat) (hs : List ((Nat → Bool) × Option Nat × DSt)) (fb : DSt) : DSt := fun sl ce => match fb sl ce with
  | .exc c ds sl1 ce1 => if c < nE then hdl c ds sl1 ce1 hs else .stuck
  | o => o
section
variable {X : Cx} {Z : Zy} {Wout : WX} {nE : Nat} {body : List Stmt} {h₀ : ExceptHandler} {hds : List ExceptHandler} {pos : Pos} {fb : DSt}
/-- the clauses show their denotations -/
inductive HdD (X : Cx) (Z : Zy) (nE : Nat) : List ExceptHandler → List ((Nat → Bool) × Option Nat × DSt) → Prop
  | nil : HdD X Z nE [] []
  | cons {x : Str} {cv : Value} {sub : Nat → Bool} {fs : DSt} {b₀ : Stmt} {suite : List Stmt} {np pos' : Pos} {hds : List ExceptHandler} {l : List ((Nat → Bool) × Option Nat × DSt)} (hc : Names X x cv) (hexm : ∀ c, c < nE → PySem.W.exmOne X.K (.ref (Z.cl c)) cv = some (sub c))
      (hsu : ∀ (a : Addr) (oe : Obj) (c : Nat) (d : Option Addr) (pn : List (Addr × Obj)), c < nE → L2N.Zn (.ref (Z.cl c)) d oe → (∃ vs, oe.data = .fields vs) → PSs (X.suite a ((a, oe) :: pn)) (b₀ :: suite) (tS (Z.hdl a c d) WF fs)) (r : HdD X Z nE hds l) :
      HdD X Z nE (.ExceptHandler (some (.Name x np)) none (b₀ :: suite) pos' :: hds) ((sub, none, fs) :: l)
  | named {x n : Str} {i : Nat} {cv : Value} {sub : Nat → Bool} {fs : DSt} {b₀ : Stmt} {suite : List Stmt} {np pos' : Pos} {hds : List ExceptHandler} {l : List ((Nat → Bool) × Option Nat × DSt)} (hN : X.N.Nodup) (hc : Names X x cv) (hexm : ∀ c, c < nE → PySem.W.exmOne X.K (.ref (Z.cl c)) cv = some (sub c))
      (hsu : ∀ (a : Addr) (oe : Obj) (c : Nat) (d : Option Addr) (pn : List (Addr × Obj)), c < nE → L2N.Zn (.ref (Z.cl c)) d oe → (∃ vs, oe.data = .fields vs) → PSs (X.suite a ((a, oe) :: pn)) (b₀ :: suite) (tS (Z.hdl a c d) WF fs)) (r : HdD X Z nE hds l)
      (hi : X.N[i]? = some n) (hln : X.env.kindOf n = some .local) (hE : nE ≤ 1000 := by decide) :
      HdD X Z nE (.ExceptHandler (some (.Name x np)) (some n) (b₀ :: suite) pos' :: hds) ((sub, some i, fs) :: l)
/-- the hand layer's clauses, with what they mean -/
theorem hdD_ok (hz : Z.hd = none) {hs : List ExceptHandler} {l : List ((Nat → Bool) × Option Nat × DSt)} (h : HdD X Z nE hs l) : ∃ cs, L2N.HdsN X hs cs ∧ ∀ (A1 : List Addr) (F1 : Hp) (E : Ends) (c : Nat) (ds : List D) (sl1 : Sl) (ce1 : List Cell) (H1 : Hp) (σ1 : L2.St) (dx : Option Addr), c < nE → SO Z.toZx A1 F1 ce1 H1 → SL Z A1 F1 sl1 σ1 → ExcOk Z.toZx F1 c ds dx →
    PostS Z A1 F1 Wout E (hdl c ds sl1 ce1 l) → L2N.wMn X.K Wout E cs (.ref (Z.cl c)) dx σ1 H1 := by
  induction h with
  | nil => exact ⟨[], .nil, fun A1 F1 E c ds sl1 ce1 H1 σ1 dx hc so hs xo p => p A1 F1 H1 σ1 dx (List.prefix_refl _) (Same.refl _) so hs xo⟩
  | @cons x cv sub fs b₀ suite np pos' hds l hc hexm hsu r ih =>
    obtain ⟨cs, h1, h2⟩ := ih
    refine ⟨⟨cv, none, fun a cls d => fun D σ H => ∃ c, c < nE ∧ cls = .ref (Z.cl c) ∧ tS (Z.hdl a c d) WF fs D σ H⟩ :: cs, .cons hc (fun a oe cls d pn hzn hfl => ⟨fun pins s σ H D I h => ?_⟩) h1, fun A1 F1 E c ds sl1 ce1 H1 σ1 dx hcn so hs xo p => ?_⟩
    · obtain ⟨c, hc, rfl, h⟩ := h
      exact (hsu a oe c d pn hc hzn hfl).run pins s σ H D I h
    · unfold hdl at p
      refine ⟨sub c, hexm c hcn, fun hb a ha => ?_, fun hb => ?_⟩
      · rw [if_pos hb] at p
        refine ⟨c, hcn, rfl, A1, F1, _, ce1, so, hs.on (a := a) (c := c) (d := dx) hz, ?_⟩
        exact suite_ok hz p (fun _ _ h => h) (fun _ _ h => h) (fun _ _ h => h) rfl
      · rw [hb] at p
        exact h2 A1 F1 E c ds sl1 ce1 H1 σ1 dx hcn so hs xo p
  | @named x n i cv sub fs b₀ suite np pos' hds l hN hc hexm hsu r hi hln hE ih =>
    obtain ⟨cs, h1, h2⟩ := ih
    refine ⟨⟨cv, some i, fun a cls d => fun D σ H => ∃ c, c < nE ∧ cls = .ref (Z.cl c) ∧ tS (Z.hdl a c d) WF fs D σ H⟩ :: cs, .named hN hi hln hc (fun a oe cls d pn hzn hfl => ⟨fun pins s σ H D I h => ?_⟩) h1, fun A1 F1 E c ds sl1 ce1 H1 σ1 dx hcn so hs xo p => ?_⟩
    · obtain ⟨c, hc, rfl, h⟩ := h
      exact (hsu a oe c d pn hc hzn hfl).run pins s σ H D I h
    · unfold hdl at p
      refine ⟨sub c, hexm c hcn, fun hb a ha => ?_, fun hb => ?_⟩
      · rw [if_pos hb] at p
        refine ⟨c, hcn, rfl, A1, F1, _, ce1, so, ((hs.on (a := a) (c := c) (d := dx) hz).set (v := .exn c ds) (x := .ref a) (.inl ⟨Nat.lt_of_lt_of_le hcn hE, a, dx, rfl, rfl, xo⟩)), ?_⟩
        exact suite_ok hz p (fun _ _ h => h) (fun _ _ h => h) (fun _ _ h => h) rfl
      · rw [hb] at p
        exact h2 A1 F1 E c ds sl1 ce1 H1 σ1 dx hcn so hs xo p
theorem ds_try_mn {l : List ((Nat → Bool) × Option Nat × DSt)} (hs : X.stack = X.env :: X.outer) (hf : X.env.frame = some X.env.locals) (hz : Z.hd = none) (tk : L2N.Takes X Wout)
    (hb : ∀ (W : WX) (pn : List (Addr × Obj)) (xe : Value → Shared → Prop), L2N.Takes (X.tr pn xe) W → PassesOwn (model X.prog X.w) X.A X.env xe → PSs (X.tr pn xe) body (tS Z W fb))
    (hh : HdD X Z nE (h₀ :: hds) l) : PS X (.Try body (h₀ :: hds) [] [] pos) (tS Z Wout (sTryM nE l fb)) := by
  obtain ⟨cs, h1, h2⟩ := hdD_ok (Wout := Wout) hz hh
  refine (L2N.ps_try_mn hs hf tk hb h1).weak fun D σ H ⟨A, F, sl, ce, so, hs, p⟩ => ⟨A, F, sl, ce, so, hs, ?_⟩
  unfold sTryM at p
  cases e : fb sl ce with
  | nx sl ce => rw [e] at p; exact p
  | bk sl ce => rw [e] at p; exact p
  | ct sl ce => rw [e] at p; exact p
  | rt v ce => rw [e] at p; exact p
  | stuck => rw [e] at p; exact p
  | exc c ds sl1 ce1 =>
    rw [e] at p
    intro A1 F1 H1 σ1 dx pA eF so1 hs1 xo
    dsimp only at p
    by_cases hcn : c < nE
    · rw [if_pos hcn] at p
      exact h2 A1 F1 D c ds sl1 ce1 H1 σ1 dx hcn so1 hs1 xo (p.mono pA eF)
    · rw [if_neg hcn] at p
      exact p.elim
end
end ZZ
set_option Elab.async false
set_option linter.all false
set_option maxRecDepth 100000
namespace ZZ
open PySem PySem.Spec L2
end ZZ
set_option Elab.async false
set_option linter.all false
set_option maxRecDepth 100000
namespace ZH
open PySem PySem.Spec PyProof.Rows L2 ZZ
section
variable {K : Fr}
theorem fun_z {d : DefZ} (h : FnAt K d) (h1 : d.clo = []) (h2 : d.dfl = none) : ∃ fd, Fun K d.name d.qual d.st d.a fd := by
  obtain ⟨oc, od, doc, pm, an, ct, osl, q, c, kp⟩ := h
  rw [h1, h2] at q
  exact ⟨_, fun_mk (st := d.st) q c kp⟩
/-- a def with positional defaults (a tuple) and keyword-only ones (a dict) -/
def vOf : D → V
  | .non => .non | .bl b => .bl b | .int i => .int i | .str s => .str s | _ => .non
theorem relFB_v {d : D} {u : Value} (h : relFB d u = true) : RelV (vOf d) u := by
  unfold relFB at h
  split at h
  · rw [of_decide_eq_true h]; exact ⟨_, rfl⟩
  · rw [of_decide_eq_true h]; exact ⟨_, rfl⟩
  · rfl
  · rw [eq_of_beq h]; rfl
  · cases h
theorem relFsB_v : ∀ {ds : List D} {us : List Value}, relFsB ds us = true → Vals (ds.map vOf) us
  | [], [], _ => .nil
  | [], _ :: _, h => by cases h
  | _ :: _, [], h => by cases h
  | d :: ds, u :: us, h => by
    obtain ⟨h1, h2⟩ := ba (show (relFB d u && relFsB ds us) = true from h)
    exact .cons (relFB_v h1) (relFsB_v h2)
theorem dflZ_ok {o : Option Addr} {ds : List D} (h : dflZ K o ds = true) : DflV K (vO o) (ds.map vOf) := by
  cases ds with
  | nil =>
    cases o with
    | none => exact .inl ⟨rfl, rfl⟩
    | some a => cases h
  | cons d ds =>
    cases o with
    | none => cases h
    | some a =>
      have h1 : tupB K a (d :: ds) = true := h
      unfold tupB at h1
      cases q : K.lookup a with
      | none =>
        rw [q] at h1
        cases h1
      | some o =>
        obtain ⟨oc, od, dt, osl⟩ := o
        rw [q] at h1
        cases oc with
        | type c =>
          cases dt with
          | seq its n =>
            obtain ⟨_, h2⟩ := ba (show (decide (c = "tuple") && (decide (its.size ≤ 1000) && relFsB (d :: ds) its.toList)) = true from h1)
            obtain ⟨_, h4⟩ := ba h2
            exact .inr ⟨List.cons_ne_nil _ _, a, _, its.toList, n, rfl, q, by simp, relFsB_v h4⟩
          | _ => cases h1
        | _ => cases dt <;> cases h1
theorem kwdZ_ok {o : Option Addr} {qs : List (Str × D)} (h : kwdZ K o qs = true) : KwdV K (vO o) (qs.map fun q => (q.1, vOf q.2)) := by
  cases qs with
  | nil => exact .inl rfl
  | cons q qs =>
    cases o with
    | none => cases h
    | some a =>
      refine .inr ⟨a, rfl, fun z hz => ?_⟩
      obtain ⟨y, hy, rfl⟩ := List.mem_map.mp hz
      have h2 := List.all_eq_true.mp (show ((q :: qs).all fun q => (match PySem.W.nsIn K a q.1 with
        | some (some u) => relFB q.2 u
        | _ => false)) = true from h) y hy
      cases e : PySem.W.nsIn K a y.1 with
      | none =>
        rw [e] at h2
        cases h2
      | some r =>
        rw [e] at h2
        cases r with
        | none => cases h2
        | some u => exact ⟨u, rfl, relFB_v h2⟩
theorem funD_z {d : DefZ} {ds : List D} {qs : List (Str × D)} (h : FnAt K d) (h1 : d.clo = []) (h2 : dflZ K d.dfl ds = true) (h3 : kwdZ K d.kwd qs = true) :
    ∃ fd, FunD K d.name d.qual (defArgs d.st) (defBody d.st) (defScope d.st) (ds.map vOf) (qs.map fun q => (q.1, vOf q.2)) d.a fd := by
  obtain ⟨oc, od, doc, pm, an, ct, osl, q, c, kp⟩ := h
  rw [h1] at q
  exact ⟨_, ⟨oc, od, _, _, doc, pm, an, _, ct, osl, rfl, q, c, dflZ_ok h2, kwdZ_ok h3⟩, kp⟩
/-- with *args behind n parameters -/
theorem funS_z {d : DefZ} {ps : List Str} {pv x qual : Str} {st : Stmt} (h : FnAt K d) (h1 : d.clo = []) (h2 : d.dfl = none) (e1 : d.name = x) (e2 : d.qual = qual) (e3 : d.st = st)
    (hb : ∀ kV doc pm an cdv ct, ∀ us rest : List Value, us.length = ps.length → bindArgs (PySem.W.fnOf x qual (defArgs st) (defBody st) (defScope st) .none kV doc pm an cdv ct) ⟨us ++ rest, []⟩ = (newTuple rest >>= fun t => pure (ps.zip us ++ [(pv, t)]))) :
    FunS K x qual st ps pv d.a := by
  subst e1 e2 e3
  obtain ⟨oc, od, doc, pm, an, ct, osl, q, c, kp⟩ := h
  rw [h1, h2] at q
  exact ⟨⟨oc, od, _, _, doc, pm, an, _, ct, osl, q, c, hb _ _ _ _ _ _⟩, kp⟩
theorem excB_ok {C : Addr} (h : excB K C = true) : ∃ nm q N bs bm sn sub ab col dd k0 k1 k2 k3 k5, K.lookup C = some (excClassObj nm q C N bs bm true sn sub ab col dd k0 k1 k2 k3 k5 "ValueError.__new__") ∧ PySem.HandSPX.refsVE bm = true := by
  unfold excB at h
  split at h
  · rename_i t dd cd sl e
    obtain ⟨h1, h⟩ := ba h
    obtain ⟨h2, h⟩ := ba h
    obtain ⟨h3, h⟩ := ba h
    obtain ⟨h4, h5⟩ := ba h
    obtain ⟨nm, bs, mro, N, q, hd, sn, sub, ab, col, hdel⟩ := cd
    have e1 : t = "type" := of_decide_eq_true h1
    have e2 : hd = true := h2
    have e3 : hdel = false := by simpa using h3
    subst e1 e2 e3
    cases mro with
    | nil => cases h4
    | cons m bm =>
      cases m with
      | ref c =>
        obtain ⟨h6, h7⟩ := ba h4
        have e4 : c = C := of_decide_eq_true h6
        subst e4
        split at h5
        · rename_i k0 k1 k2 k3 id k5 e5
          have e6 : id = "ValueError.__new__" := of_decide_eq_true h5
          subst e6
          obtain ⟨l⟩ := sl
          have e7 : l = [k0, k1, k2, k3, some (.builtin "ValueError.__new__"), k5] := e5
          subst e7
          exact ⟨nm, q, N, bs, bm, sn, sub, ab, col, dd, k0, k1, k2, k3, k5, e, h7⟩
        · cases h5
      | _ => cases h4
  · cases h
theorem recB_ok {p v : Addr} {T : String} (h : recB K p T v = true) : ∃ l, PySem.W.recIn K p T = some (.ref v :: l) := by
  unfold recB at h
  split at h
  · rename_i u l e
    rw [← of_decide_eq_true h]
    exact ⟨_, e⟩
  · cases h
theorem strB_ok {h : Heap} {mg : Str → Option Value} (X : K.In h) (G : h.Ns mainGlobals mg) {x s : Str} (c : strB K x s = true) : ∃ t, mg x = some (.str s t) := by
  unfold strB at c
  split at c
  · rename_i y t e
    rw [← of_decide_eq_true c]
    exact ⟨t, PySem.W.mg_of X G e⟩
  · cases c
theorem cvB_ok {C : Addr} {a : Str} {d : D} (h : cvB K C a d = true) : ∃ u, PySem.W.findCls K (.ref C) (.type "type") a = some (.val u) ∧ RelV (vOf d) u := by
  unfold cvB at h
  split at h
  · rename_i u e
    exact ⟨u, e, relFB_v h⟩
  · cases h
theorem law_binds {d : DefZ} {fd : FuncData} {x : Str} (F : Fun K d.name d.qual d.st d.a fd) (hb : ∀ (kV doc pm : Value) (an : Option Addr) (cdv ct : Value) (s : Shared) (v : Value), BindsTo s (PySem.W.fnOf d.name d.qual (defArgs d.st) (defBody d.st) (defScope d.st) .none kV doc pm an cdv ct) ⟨[v], []⟩ [(x, v)]) :
    ∀ (s : Shared) (v : Value), BindsTo s fd ⟨[v], []⟩ [(x, v)] := by
  obtain ⟨oc, od, kV, doc, pm, an, cdv, ct, osl, rfl, lk, hcd⟩ := F.ex
  exact fun s v => hb _ _ _ _ _ _ s v
end
/-- a law's end: the written part is what the hook tells -/
theorem walk_ofZ {l : PySem.W.OpenLaw} {n k : Nat} {q : Program} {loose : List Str} {XP : (Str → Option Value) → Heap → Prop} {YP : World → Heap → Prop} {d : DefRec} {CX : World → CXT} {x : Str}
    (hn : l.most = some n) (hn2 : n ≤ sizeLine) (hdf : d.params.defaults = []) (hr : Room k callerA)
    (F : ∀ (w : World) (mg : Str → Option Value) (fa : Addr) (h : Heap), YP w h → h.Ns mainGlobals mg → mg d.name = some (.ref fa) →
      ∃ (K : Fr) (fd : FuncData) (sp : Sp), K.In h ∧ (∀ (s : Shared) (u : Value), BindsTo s fd ⟨[u], []⟩ [(x, u)]) ∧ (∀ (H : Hp) (a : Addr) (ns : List Int), ns.length ≤ n → Only H → SqL K H a (ns.map V.int) → sp [.ref a] H (fun v _ => v = .bl true) fun _ _ _ => False) ∧
        ∀ base : Heap, K.In base → base.Ns mainGlobals mg → FnOk l.prog w K mg base (CX w) k fa fd [x] sp)
    (E : ∀ (w : World) (H : Hp) (s : Shared) (e : Value) (s' : Shared), CX w [] H s (fun _ _ _ => False) e s' → False) :
    PySem.W.WalkO q loose XP YP l.row.toRowW d [] (fun f vs => PySem.call f vs) := by
  refine Att.attach_call hn hdf fun w s0 s1 mg mb fa o pm cd doc a vs ns G Y h1 h2 h3 hm h4 h5 hl hS => ?_
  obtain ⟨K, fd, sp, KX, hb, hs, hF⟩ := F w mg fa _ Y G.T.g hm
  exact law_call KX G.T.g G.T.b G.T.builtins G.T.nolimit hS h4 h5 (Nat.le_trans hl hn2) hr hF hb (fun H hO hq => hs H a ns hl hO hq) fun H e s' => E w H s1 e s'
end ZH
set_option Elab.async false
set_option linter.all false
set_option maxRecDepth 100000
namespace L2
open PySem PySem.Spec PyProof.Rows ZZ
/-- the dict at a -/
def DcAt (X : Cx) (H : Hp) (a : Addr) (xs : List (NestedKey × Value × Value)) : Prop :=
  (a == sysModules) = false ∧ xs.length ≤ sizeLine ∧ (∃ ep, H a = some (.ext (rawV X.w a xs ep))) ∧ ∀ pins σ s, Inv X pins σ H s → DictV X.w s.heap a xs
section
variable {X : Cx} {pins : List (Addr × Obj)} {σ : L2.St} {H : Hp} {s : Shared} {a : Addr} {xs : List (NestedKey × Value × Value)} {k : NestedKey} {u : Value}
theorem DcAt.none (g : DcAt X H a xs) : ∃ o, H a = some o := let ⟨_, _, ⟨ep, e⟩, _⟩ := g; ⟨_, e⟩
end
end L2
set_option Elab.async false
set_option linter.all false
set_option maxRecDepth 100000
namespace L2
open PySem PySem.Spec PyProof.Rows ZZ
end L2
namespace ZZ
open PySem PySem.Spec L2
end ZZ
set_option Elab.async false
set_option linter.all false
set_option maxRecDepth 100000
namespace ZZ
open PySem PySem.Spec L2
end ZZ
set_option Elab.async false
set_option linter.all false
set_option maxRecDepth 100000
namespace ZZ
open PySem PySem.Spec L2
end ZZ
set_option Elab.async false
set_option linter.all false
set_option maxRecDepth 100000
namespace RZ
open PySem PySem.Spec PyProof.Rows L2
end RZ
namespace ZZ
open PySem PySem.Spec L2
end ZZ
set_option Elab.async false
set_option linter.all false
set_option maxRecDepth 100000
namespace PySem.W
open PySem PySem.Calls PyProof.Rows
end PySem.W
namespace StX
open PySem PySem.Spec PyProof.Rows L2
/-- a def called with positional values and keywords ks -/
def FnRK (P : Program) (w : World) (K : PySem.W.Frag) (mg : Str → Option Value) (base : Heap) (CX : CXT) (k : Nat) (f : Addr) (ks : List Str) (sp : List V → Sp) : Prop :=
  ∀ (A : Around) (outer : List Env) (s : Shared) (H : Hp) (us ws : List Value) (vs zs : List V) (Q : VK) (E : XK), Room k A → Env0 P w K mg base A outer s H → Vals vs us → Vals zs ws → ws.length = ks.length → sp zs vs H Q E →
    codeAny (model P w) A (.call (.ref f) ⟨us, ks.zip ws⟩) (CR CX outer P w H s Q E) s
section
variable {CX : CXT} {P : Program} {w : World} {K : PySem.W.Frag} {mg : Str → Option Value} {base : Heap} {k n : Nat} {f : Addr} {name qual : Str} {params : Arguments} {body : List Stmt} {scope : Scope} {dV kV doc pm cdv ct oc : Value} {an od : Option Addr}
  {osl : Array (Option Value)} {N ps ks : List Str} {sp : Sp}
theorem FnRK.mono {sp : List V → Sp} {j : Nat} (F : FnRK P w K mg base CX j f ks sp) (h : j ≤ k) : FnRK P w K mg base CX k f ks sp := fun A outer s H us ws vs zs Q E hr => F A outer s H us ws vs zs Q E (hr.mono h)
end
end StX
namespace ZZ
open PySem PySem.Spec L2
/-- the items at these places -/
def pick {α : Type} (pm : List Nat) (l : List α) : List α := pm.filterMap fun i => l[i]?
section
variable {Z : Zy} {A A' : List Addr} {F F' H : Hp} {ce : List Cell} {sl : Sl} {σ : L2.St} {W : WX} {Q Q' : VK}
theorem VReps.getr : ∀ {vs : List Val} {xs : List V}, VReps Z A F vs xs → ∀ i : Nat, (vs[i]? = none ∧ xs[i]? = none) ∨ ∃ v x, vs[i]? = some v ∧ xs[i]? = some x ∧ VRep Z A F v x
  | [], xs, h, i => by
    unfold VReps at h
    subst h
    exact .inl ⟨rfl, rfl⟩
  | v :: vs, xs, ⟨x, r, e, h1, h2⟩, i => by
    subst e
    cases i with
    | zero => exact .inr ⟨v, x, rfl, rfl, h1⟩
    | succ i => simpa using VReps.getr h2 i
theorem VReps.pick {vs : List Val} {xs : List V} (h : VReps Z A F vs xs) : ∀ pm : List Nat, VReps Z A F (ZZ.pick pm vs) (ZZ.pick pm xs)
  | [] => rfl
  | i :: pm => by
    have ih := VReps.pick h pm
    unfold ZZ.pick at ih ⊢
    rcases h.getr i with ⟨h1, h2⟩ | ⟨v, x, h1, h2, h3⟩
    · rw [List.filterMap_cons_none h1, List.filterMap_cons_none h2]
      exact ih
    · rw [List.filterMap_cons_some h1, List.filterMap_cons_some h2]
      exact ⟨x, _, rfl, h3, ih⟩
end
end ZZ
namespace ZH
open PySem PySem.Spec L2 ZZ
end ZH
set_option Elab.async false
set_option linter.all false
set_option maxRecDepth 100000
namespace PySem
open Sem (wp)
end PySem
namespace L2
open PySem PySem.Spec PyProof.Rows ZZ
end L2
namespace ZZ
open PySem PySem.Spec L2
end ZZ
set_option Elab.async false
set_option linter.all false
set_option maxRecDepth 100000
namespace RZ
open PySem PySem.Spec PyProof.Rows L2 ZZ
end RZ
namespace ZZ
open PySem PySem.Spec L2 RZ
end ZZ
set_option Elab.async false
set_option linter.all false
set_option maxRecDepth 100000
namespace L2
open PySem PySem.Spec PyProof.Rows L2H
theorem roomH_in1 {k : Nat} {A : Around} (r : RoomH (k + 1) A) : RoomH k A.in1 :=
  ⟨by have := r.dp; show A.depth + 3 * k + 5 < _; omega, by have := r.un; show A.units + 1 + 16 * k + 200 < _; omega⟩
section
variable {X : Cx} {CX : CXT} {k : Nat} {f C : Addr} {fd : FuncData} {sp : Sp} {pn pos : Pos} {e : Expr} {ta : TE}
theorem pe_lenOH (he : PE X e ta) (hs : PySem.W.findIn X.K (.ref C) "__len__" = some (some (.ref f))) (hf : PySem.W.isFn X.K (.ref f) = true) (F : FnH X.prog X.w X.K X.mg X.base CX k f fd ["self"] sp) (hr : RoomH (k + 1) X.A) (hc : HotC X) (hbd : Binds X.K fd ["self"] []) (hx : Passes CX X fun _ _ _ => False)
    (hg : Gl X "len") (hm : X.mg "len" = none) (hst : starEach [e] X.env = (false, eval e X.env) :: starEach [] X.env := by rfl) (hpl : (backTo pos (starEach [] X.env)).any (·.1) = false := by rfl) :
    PE X (.Call (.Name "len" pn) [e] [] pos) (tLenO C sp ta) := by
  refine ⟨fun pins s σ H Q I h => ?_⟩
  refine wpAny_Call_Name_kw (ld_blt (u := .builtin "len") I hg hm PySem.boot_len ?_ (by decide) (by decide))
  have ha : PA X [e] (tCons ta tNil) := pa_cons he pa_nil hst
  refine PyProof.Rows.callWith_builtin1 (thn (ha.run pos pins s σ H (fun vs H1 => match vs with
    | [x] => ∃ a dx fs, x = .ref a ∧ H1 a = some (.ins C dx fs) ∧ sp [x] H1 (fun v H2 => ∃ n, v = .int n ∧ 0 ≤ n ∧ n < 2 ^ 62 ∧ Q (.int n) H2) fun _ _ _ => False
    | _ => False) I h) fun us s1 ⟨vs, H1, I1, r1, q1⟩ => ?_) hst hpl
  rcases vs with _ | ⟨x, _ | ⟨y, r⟩⟩
  · exact q1.elim
  rotate_left
  · exact q1.elim
  obtain ⟨c, dx, fs, rfl, hcc, q⟩ := q1
  obtain ⟨u, rfl, ru⟩ := vals1 r1
  obtain rfl : u = Value.ref c := ru
  obtain ⟨mA, O1, _⟩ := ins_get I1.hok hcc
  obtain ⟨od, J, _⟩ := O1.look
  obtain ⟨m, hF⟩ := I1.fr
  obtain ⟨p, hot, hp⟩ := hc
  have P1 := I1.pin p (List.mem_append_left _ hp)
  have hpin : PinOk X.stack H1 s1 p := ⟨P1.1, P1.2.1, fun hm => (List.mem_cons.mp (I1.stkSub p.1 hm)).elim P1.2.2.1 P1.2.2.2.1, P1.2.2.2.2⟩
  refine PySem.W.len_K hF I1.ok.mod.kin J hs hf ?_
  refine wpAny_call (codeAny_mono (F.run X.A.in1 X.stack s1 H1 ⟨[.ref c], []⟩ [.ref c] [.ref c] _ _ p (roomH_in1 hr) hot hpin I1.env0.in1 (hbd s1 [.ref c] I1.kIn rfl) (.cons rfl .nil) q) fun r s' hq => ?_)
  cases r with
  | error er => exact hx pins σ H1 s1 er s' I1 hq
  | ok fl' =>
    cases fl' with
    | ret u =>
      obtain ⟨v, H', I2, rv, n, rfl, n0, n1, q2⟩ := I1.after hq
      obtain ⟨tk, rfl⟩ := rv
      exact ⟨⟨n0, by omega⟩, .int n, H', I2.tok _, ⟨_, rfl⟩, q2⟩
    | next => exact False.elim hq
    | brk => exact False.elim hq
    | cont => exact False.elim hq
end
end L2
namespace ZZ
open PySem PySem.Spec L2
section
variable {X : Cx} {Z : Zy} {W : WX} {k : Nat} {fa : Addr} {fh : DF} {pos pn : Pos} {e : Expr} {f : DE} {c : Nat}
theorem de_lenOH (he : PE X e (tE Z W f)) (hs : PySem.W.findIn X.K (.ref (Z.cl c)) "__len__" = some (some (.ref fa))) (hf : PySem.W.isFn X.K (.ref fa) = true) (G : DOkH X.prog X.w X.K X.mg X.base k fa ["self"] (spD Z.toZx fh 1)) (hr : L2H.RoomH (k + 1) X.A) (hh : L2H.HotC X) (hg : Gl X "len") (hm : X.mg "len" = none)
    (hst : starEach [e] X.env = (false, eval e X.env) :: starEach [] X.env := by rfl) (hpl : (backTo pos (starEach [] X.env)).any (·.1) = false := by rfl) : PE X (.Call (.Name "len" pn) [e] [] pos) (tE Z W (eUn (kLenO c fh) f)) := by
  obtain ⟨fd, F, bd⟩ := G.ex
  refine (pe_lenOH (C := Z.cl c) he hs hf F hr hh bd pass_none hg hm hst hpl).weak fun σ H Q h => tE_imp (fun x H1 ⟨A, F, sl, ce, v, so, hs, rv, p⟩ => ?_) (tE1 h)
  unfold kLenO at p
  by_cases hi : isC c ce v = true
  · rw [if_pos hi] at p
    obtain ⟨a, dx, fs, n, rfl, h1, h2⟩ := isC_rd so rv hi
    refine ⟨a, dx, fs, rfl, h1, spD_call (W := WF) (sl := sl) (σ := σ) (vs := [v]) so ⟨_, _, rfl, rv, rfl⟩ rfl (by simp [isC_plain hi]) ?_⟩
    split at p
    · rename_i n ce' e
      rw [e]
      split at p
      · rename_i hb
        rw [Bool.and_eq_true, Nat.ble_eq, decide_eq_true_eq] at hb
        exact fun A' F' H' x p1 e1 so1 r1 => ⟨n, rep_int r1, hb.2, by omega, by rw [← rep_int r1]; exact p A' F' H' x p1 e1 so1 r1⟩
      · exact p.elim
    · exact p.elim
  · rw [if_neg hi] at p
    exact p.elim
end
end ZZ
set_option Elab.async false
set_option linter.all false
set_option maxRecDepth 100000
namespace L2
open PySem PySem.Spec PyProof.Rows
end L2
namespace ZZ
open PySem PySem.Spec L2
def itLT : Val → Option (List D)
  | .im (.lst ds) => some ds
  | .im (.tup ds) => some ds
  | _ => none
end ZZ
namespace L2
open PySem PySem.Spec PyProof.Rows
end L2
namespace ZZ
open PySem PySem.Spec L2
end ZZ
set_option Elab.async false
set_option linter.all false
set_option maxRecDepth 100000
namespace ZZ
open PySem PySem.Spec L2
end ZZ
set_option Elab.async false
set_option linter.all false
set_option maxRecDepth 100000
namespace ZZ
open PySem PySem.Spec L2
end ZZ
set_option Elab.async false
set_option linter.all false
set_option maxRecDepth 100000
namespace ZZ
open PySem PySem.Spec L2
end ZZ
set_option Elab.async false
set_option linter.all false
set_option maxRecDepth 100000
namespace L2
open PySem PySem.Spec PyProof.Rows
end L2
namespace ZZ
open PySem PySem.Spec L2
end ZZ
set_option Elab.async false
set_option linter.all false
set_option maxRecDepth 100000
namespace StX
open PySem PySem.Spec PyProof.Rows L2
/-- t looks one name up in the dict at D and goes on as t' -/
def KwLook {α : Type} (D : Addr) (nm : Str) (u : Value) (t t' : Sem α) : Prop := ∃ (β γ : Type) (k1 : Option Value → Sem β) (k2 : β → Sem γ) (k3 : γ → Sem α) (a : β), t = ((nsGet D nm >>= k1) >>= k2) >>= k3 ∧ k1 (some u) = pure a ∧ (k2 a >>= k3) = t'
theorem KwLook.run {α : Type} {M : Model} {A : Around} {K : PySem.W.Frag} {s : Shared} {D : Addr} {nm : Str} {u : Value} {t t' : Sem α} {Q : α → Shared → Prop} {E : Value → Shared → Prop} (X : K.In s.heap) (hu : PySem.W.nsIn K D nm = some (some u)) (h : KwLook D nm u t t') (q : wpAny M A t' Q E s) : wpAny M A t Q E s := by
  obtain ⟨β, γ, k1, k2, k3, a, e1, e2, e3⟩ := h
  have l1 : PySem.W.Looks M s.heap (nsGet D nm >>= k1) a := (PySem.W.looks_nsIn X hu).andThen (PySem.W.Looks.of_pure e2)
  rw [e1, bind_assoc]
  exact wpAny_bind (l1.here (e3 ▸ q))
end StX
namespace ZZ
open PySem PySem.Spec L2 ZH
/-- such a def, called without the keyword: dv stands behind the first n -/
structure DOkSD (P : Program) (w : World) (K : PySem.W.Frag) (mg : Str → Option Value) (base : Heap) (Z : Zx) (k : Nat) (f : Addr) (n : Nat) (dv : D) (fh : DF) : Prop where
  F : FnR P w K mg base (L2N.CX P w) k f fun vs H Q E => ∃ A F ce ds, SO Z A F ce H ∧ VReps Z.z A F ds vs ∧ PostE Z.z A F (fun c d _ H => E c d H) [] Q (fh (ds.take n ++ [.im dv] ++ ds.drop n) ce)
  kp : PySem.W.keepIn K (.ref f) = true
theorem DOkSD.mono {P w K mg base Z k j f n dv fh} (G : DOkSD P w K mg base Z k f n dv fh) (h : k ≤ j) : DOkSD P w K mg base Z j f n dv fh := ⟨fun A outer s H us vs Q E hr => G.F A outer s H us vs Q E (hr.mono h), G.kp⟩
end ZZ
namespace ZH
open PySem PySem.Spec L2 ZZ
end ZH
set_option Elab.async false
set_option linter.all false
set_option maxRecDepth 100000
namespace ZZ
open PySem PySem.Spec L2 PyProof.Rows
/-- what is wanted behind it -/
def PostG (Z : Zy) (A : List Addr) (F : Hp) (W : WX) (D : GEnds) (r : List ZZ.D × Out) : Prop := ∀ A0 F0 ys0, A <+: A0 → Same F F0 → Reps Z.toZx F0 r.1 ys0 → match r.2 with
  | .nx sl ce => ∀ A' F' H' σ', A0 <+: A' → Same F0 F' → SO Z.toZx A' F' ce H' → SL Z A' F' sl σ' → D.nx ys0 σ' H'
  | .bk sl ce => ∀ A' F' H' σ', A0 <+: A' → Same F0 F' → SO Z.toZx A' F' ce H' → SL Z A' F' sl σ' → D.bk ys0 σ' H'
  | .ct sl ce => ∀ A' F' H' σ', A0 <+: A' → Same F0 F' → SO Z.toZx A' F' ce H' → SL Z A' F' sl σ' → D.ct ys0 σ' H'
  | .rt v ce => ∀ A' F' H' x, A0 <+: A' → Same F0 F' → SO Z.toZx A' F' ce H' → VRep Z A' F' v x → D.rt ys0 x H'
  | .exc c es sl ce => ∀ A' F' H' σ' dx, A0 <+: A' → Same F0 F' → SO Z.toZx A' F' ce H' → SL Z A' F' sl σ' → ExcOk Z.toZx F' c es dx → W (.ref (Z.cl c)) dx σ' H'
  | .stuck => False
theorem PostG.mono {Z : Zy} {A A' : List Addr} {F F' : Hp} {W : WX} {D : GEnds} {r : List ZZ.D × Out} (p : A <+: A') (e : Same F F') (h : PostG Z A F W D r) : PostG Z A' F' W D r :=
  fun A0 F0 ys0 p0 e0 r0 => h A0 F0 ys0 (p.trans p0) (e.trans e0) r0
/-- a plain outcome, at the rows ys -/
theorem PostG.at {Z : Zy} {A : List Addr} {F : Hp} {W : WX} {D : GEnds} {ds : List ZZ.D} {o : Out} {ys : List V} (h : PostG Z A F W D (ds, o)) (r : Reps Z.toZx F ds ys) : PostS Z A F W (D.at ys) o := by
  have q := h A F ys (List.prefix_refl _) (Same.refl _) r
  cases o <;> exact q
end ZZ
set_option Elab.async false
set_option linter.all false
set_option maxRecDepth 100000
set_option maxHeartbeats 1000000
namespace ZZ
open PySem PySem.Spec L2 PyProof.Rows GenW
end ZZ
set_option Elab.async false
set_option linter.all false
set_option maxRecDepth 100000
namespace ZZ
open PySem PySem.Spec L2
end ZZ
set_option Elab.async false
set_option linter.all false
set_option maxRecDepth 100000
namespace ZZ
open PySem PySem.Spec L2
def kMakeN (c nf : Nat) (fh : DF) (vs : List Val) : DE := kMake c nf fh (vs ++ [.im .non])
structure DOkN (P : Program) (w : World) (K : PySem.W.Frag) (mg : Str → Option Value) (base : Heap) (k : Nat) (f : Addr) (ps : List Str) (sp : Sp) : Prop where
  ex : ∃ fd, FnOk P w K mg base (L2N.CX P w) k f fd ps sp ∧ Binds K fd ps [.none]
theorem FunD.left1 {K : PySem.W.Frag} {x qual : Str} {st : Stmt} {f : Addr} {fd : FuncData} {ps : List Str} {kws : List (Str × V)} (F : FunD K x qual (defArgs st) (defBody st) (defScope st) [.non] kws f fd) (hn : 0 < ps.length)
    (h : ∀ (T : Addr) (kV doc pm : Value) (an : Option Addr) (cdv ct : Value) (us its : List Value), us.length = ps.length - 1 → its.length = 1 →
      ∃ k, bindArgs (PySem.W.fnOf x qual (defArgs st) (defBody st) (defScope st) (.ref T) kV doc pm an cdv ct) ⟨us, []⟩ = seqItems? (.ref T) >>= k ∧ k (some its.toArray) = pure (ps.zip (us ++ its.drop 0))) : Binds K fd ps [.none] := by
  obtain ⟨ds, h1, h2⟩ := F.binds1 (ps.length - 1) 0 (by simp) (by simp; omega) h
  cases h1 with
  | cons r rs =>
    cases rs
    have e : _ = Value.none := r
    subst e
    exact h2
section
variable {X : Cx} {Z : Zy} {W : WX} {k n : Nat} {fa : Addr} {ps : List Str} {fh : DF} {x : Str} {p pos : Pos} {e : Expr} {es : List Expr} {fs : List DE}
theorem de_makeN {c nf : Nat} (M : Mk X.K (Z.cl c) fa) (G : DOkN X.prog X.w X.K X.mg X.base k fa ps (spD Z.toZx fh (n + 2))) (hr : Room (k + 1) X.A) (hm : X.mg x = some (.ref (Z.cl c))) (tw : TW X W) (ha : PA X (e :: es) (tArgs Z W fs)) (hfl : (Z.fl c).length = nf)
    (hg : Gl X x := by rfl) (hl : fs.length = n := by rfl) (hdb : (x == ("__debug__" : Str)) = false := by decide) (he : starEach (e :: es) X.env = (false, eval e X.env) :: starEach es X.env := by rfl) (hpl : (backTo pos (starEach es X.env)).any (·.1) = false := by rfl) :
    PE X (.Call (.Name x p) (e :: es) [] pos) (tE Z W (eArgs fs (kMakeN c nf fh))) :=
  (pe_makeZS M G.ex.choose_spec.1 hr hg hm G.ex.choose_spec.2 (.cons (show L2.RelV V.non Value.none from rfl) .nil) tw ha hdb he hpl).weak fun σ H Q h => tArgs_imp (fun xs H1 ⟨A, F, sl, ce, vs, so, hs, r, l, q⟩ => by
    intro a dx ha' hdx hne
    unfold kMakeN kMake at q
    have r0 := r
    have r : VReps Z A F (vs ++ [.im .non]) (xs ++ [V.non]) := r0.append ⟨V.non, [], rfl, by unfold VRep Rep; rfl, by unfold VReps; rfl⟩
    have l0 := l
    have l : (vs ++ [Val.im D.non]).length = n + 1 := by rw [List.length_append, l0, hl]; rfl
    generalize vs ++ [Val.im D.non] = vs at q r l
    by_cases hp : vs.all plainV = true
    · rw [if_pos hp] at q
      -- the new instance's dict, then the instance as a cell
      have so1 := so.new (o := .own a) hdx
      have fa1 : (upd F dx (.own a)) a = none := by rw [upd_ne (Ne.symm hne)]; exact so.fnone ha'
      have ha1 : (upd H1 dx (.own a)) a = none := by rw [upd_ne (Ne.symm hne)]; exact ha'
      have so2 := so1.newCell (o := .ins (Z.cl c) dx []) (c := .ins c []) ha1 ⟨so1.fnone ha1, dx, [], upd_same, rfl, reps_nil⟩
      have up1 : Same F (upd F dx (.own a)) := same_up (so.fnone hdx)
      refine ⟨A ++ [a], upd F dx (.own a), ce ++ [.ins c []], .cell ce.length :: vs, so2, ⟨.ref a, xs ++ [V.non], rfl, ⟨a, by rw [← so.len]; simp, rfl⟩, (r.mono (List.prefix_append _ _) up1).nohd hp⟩, by simp [l], ?_⟩
      cases e : fh (.cell ce.length :: vs) (ce ++ [.ins c []]) with
      | stuck => rw [e] at q; exact q.elim
      | exc d ds ce' =>
        rw [e] at q
        exact fun A' F' H' dx' pA eF so' xo => q A F' H' dx' (List.prefix_refl _) (up1.trans eF) (so'.cut ((List.prefix_append _ _).trans pA) so.len) xo
      | ok v ce' =>
        rw [e] at q
        cases v with
        | cell n => exact q.elim
        | exn c ds => exact q.elim
        | im d => cases d with
          | non =>
            intro A' F' H' y pA eF so' ry
            refine ⟨rep_non (Z := Z.toZx.z) ry, ?_⟩
            have hAa : A'[ce.length]? = some a := pre_get pA (by rw [← so.len]; simp)
            dsimp only at q
            split at q
            · rename_i d ds hds
              by_cases hdc : d = c ∧ ds.length = nf
              · rw [if_pos hdc] at q
                obtain ⟨rfl, hll⟩ := hdc
                obtain ⟨hF, dx', fs', hH, hfs, rr⟩ := so'.ok _ _ _ hAa hds
                have up := same_up (o := .ins (Z.cl d) dx' fs') hF
                have s2 := (so'.freeze hAa hF hH).cut (A := A) ((List.prefix_append _ _).trans pA) so.len
                have e3 : (ce'.set ce.length .dead).take ce.length = ce'.take ce.length := by
                  refine List.ext_getElem? fun j => ?_
                  by_cases hj : j < ce.length
                  · rw [List.getElem?_take_of_lt hj, List.getElem?_take_of_lt hj, List.getElem?_set_ne (by omega)]
                  · rw [List.getElem?_eq_none (by simp; omega), List.getElem?_eq_none (by simp; omega)]
                rw [e3] at s2
                refine q A _ H' (.ref a) (List.prefix_refl _) ((up1.trans eF).trans up) s2 ?_
                unfold VRep Rep
                exact ⟨a, dx', fs', rfl, upd_same, by rw [hfs, hll, ← hfl, List.take_length], rr.mono up⟩
              · rw [if_neg hdc] at q
                exact q.elim
            · exact q.elim
          | _ => exact q.elim
    · rw [if_neg hp] at q
      exact q.elim) (tN h)
end
end ZZ
set_option Elab.async false
set_option linter.all false
set_option maxRecDepth 100000
namespace ZZ
open PySem PySem.Spec L2 PyProof.Rows GenW
/-- a generator that has handed out a value -/
def sleeps : GenState → Prop
  | .suspended .. => True
  | _ => False
/-- all that stands in H stands in H' -/
def UpH (H H' : Hp) : Prop := ∀ b u, H b = some u → H' b = some u
theorem UpH.refl (H : Hp) : UpH H H := fun _ _ h => h
/-- what is wanted; yl: at a value that is handed out -/
structure YEnds where
  nx : List V → L2.St → Hp → Prop
  rt : List V → VK
  bk : List V → L2.St → Hp → Prop := fun _ _ _ => False
  ct : List V → L2.St → Hp → Prop := fun _ _ _ => False
  yl : List V → V → Hp → (Hp → Prop) → Prop
def YEnds.at (D : YEnds) (ys : List V) : Ends where
  nx := D.nx ys
  rt := D.rt ys
  bk := D.bk ys
  ct := D.ct ys
end ZZ
set_option Elab.async false
set_option linter.all false
set_option maxRecDepth 100000
namespace ZZ
open PySem PySem.Spec L2 PyProof.Rows GenW
end ZZ
set_option Elab.async false
set_option linter.all false
set_option maxRecDepth 100000
namespace ZZ
open PySem PySem.Spec L2 PyProof.Rows
/-- at each value: what has gone out is a part of out -/
def AtY (Z : Zy) (A : List Addr) (F : Hp) (c0 : List Cell) (out : List D) (D : YEnds) : Prop :=
  ∀ A' F' ce' H' ds d ys x, A <+: A' → Same F F' → SO Z.toZx A' F' ce' H' → ce'.take c0.length = c0 → Reps Z.toZx F' ds ys → Rep Z.toZx F' d x → ds ++ [d] <+: out → D.yl ys x H' (fun J => ∃ F2, Same F' F2 ∧ SO Z.toZx A' F2 ce' J)
theorem AtY.mono {Z : Zy} {A A' : List Addr} {F F' : Hp} {c0 : List Cell} {out : List D} {D : YEnds} (h : AtY Z A F c0 out D) (p : A <+: A') (e : Same F F') : AtY Z A' F' c0 out D :=
  fun A2 F2 ce2 H2 ds d ys x p2 e2 => h A2 F2 ce2 H2 ds d ys x (p.trans p2) (e.trans e2)
theorem AtY.sub {Z : Zy} {A : List Addr} {F : Hp} {c0 : List Cell} {out o2 : List D} {D : YEnds} (h : AtY Z A F c0 out D) (q : o2 <+: out) : AtY Z A F c0 o2 D :=
  fun A2 F2 ce2 H2 ds d ys x p2 e2 s t r1 r2 l => h A2 F2 ce2 H2 ds d ys x p2 e2 s t r1 r2 (l.trans q)
end ZZ
set_option Elab.async false
set_option linter.all false
set_option maxRecDepth 100000
namespace ZZ
open PySem PySem.Spec L2 PyProof.Rows
end ZZ
set_option Elab.async false
set_option linter.all false
set_option maxRecDepth 100000
namespace ZZ
open PySem PySem.Spec L2 PyProof.Rows GenW
end ZZ
set_option Elab.async false
set_option linter.all false
set_option maxRecDepth 100000
set_option maxHeartbeats 1000000
namespace ZZ
open PySem PySem.Spec L2 PyProof.Rows GenW
end ZZ
set_option Elab.async false
set_option linter.all false
set_option maxRecDepth 100000
set_option maxHeartbeats 1000000
namespace ZZ
open PySem PySem.Spec L2 PyProof.Rows GenW
end ZZ
set_option Elab.async false
set_option linter.all false
set_option maxRecDepth 100000
namespace ZZ
open PySem PySem.Spec L2 PyProof.Rows GenW
end ZZ
set_option Elab.async false
set_option linter.all false
set_option maxRecDepth 100000
set_option maxHeartbeats 1000000
namespace ZZ
open PySem PySem.Spec L2 PyProof.Rows GenW
/-- the twin that cannot be woken -/
def twin : GenState → GenState
  | .suspended _ l c p fs cl => .suspended (fun _ => .unsupported "") l c p fs cl
  | x => x
def flatF : List Frame → Bool
  | [] => true
  | .ret .. :: r => flatF r
  | .gen .. :: _ => false
def flatG : GenState → Bool
  | .suspended _ _ _ _ fs _ => flatF fs
  | _ => true
/-- old: the sleepers; a: with their twins, b: with themselves -/
structure RelG (old : Nat → Option GenState) (a b : Array GenState) : Prop where
  size : b.size = a.size
  oth : ∀ i, old i = none → b[i]? = a[i]? ∧ ∀ x, a[i]? = some x → flatG x = true
  own : ∀ i y, old i = some y → sleeps y ∧ a[i]? = some (twin y) ∧ b[i]? = some y
theorem RelG.set {old : Nat → Option GenState} {a b : Array GenState} {g : Nat} {x : GenState} (r : RelG old a b) (hg : old g = none) (hx : flatG x = true) : RelG old (a.setIfInBounds g x) (b.setIfInBounds g x) := by
  refine ⟨by simp [r.size], fun i hi => ?_, fun i y hy => ?_⟩
  · obtain ⟨e, fl⟩ := r.oth i hi
    by_cases h : g = i
    · subst h
      refine ⟨by rw [Array.getElem?_setIfInBounds_self, Array.getElem?_setIfInBounds_self, r.size], fun z hz => ?_⟩
      rw [Array.getElem?_setIfInBounds_self] at hz
      split at hz
      · cases hz; exact hx
      · cases hz
    · rw [Array.getElem?_setIfInBounds_ne h, Array.getElem?_setIfInBounds_ne h]
      exact ⟨e, fl⟩
  · have h : g ≠ i := fun h => by rw [h] at hg; rw [hg] at hy; cases hy
    rw [Array.getElem?_setIfInBounds_ne h, Array.getElem?_setIfInBounds_ne h]
    exact r.own i y hy
theorem RelG.lt {old : Nat → Option GenState} {a b : Array GenState} {i : Nat} {y : GenState} (r : RelG old a b) (h : old i = some y) : i < a.size := by
  obtain ⟨_, e, _⟩ := r.own i y h
  exact (Array.getElem?_eq_some_iff.mp e).1
theorem RelG.push {old : Nat → Option GenState} {a b : Array GenState} {x : GenState} (r : RelG old a b) (hx : flatG x = true) : RelG old (a.push x) (b.push x) := by
  refine ⟨by simp [r.size], fun i hi => ?_, fun i y hy => ?_⟩
  · obtain ⟨e, fl⟩ := r.oth i hi
    rw [Array.getElem?_push, Array.getElem?_push, r.size, e]
    refine ⟨rfl, fun z hz => ?_⟩
    split at hz
    · cases hz; exact hx
    · exact fl z hz
  · have h := r.lt hy
    obtain ⟨s, e1, e2⟩ := r.own i y hy
    have n1 : ¬ i = a.size := Nat.ne_of_lt h
    rw [Array.getElem?_push, Array.getElem?_push, r.size, if_neg n1, if_neg n1]
    exact ⟨s, e1, e2⟩
/-- asleep: old or its frames are flat -/
theorem RelG.at {old : Nat → Option GenState} {a b : Array GenState} {g : Nat} {x : GenState} (r : RelG old a b) (h : a[g]? = some x) : (old g = none ∧ b[g]? = some x ∧ flatG x = true) ∨ ∃ y, old g = some y ∧ sleeps y ∧ x = twin y ∧ b[g]? = some y := by
  cases e : old g with
  | none =>
    obtain ⟨e1, e2⟩ := r.oth g e
    exact .inl ⟨rfl, e1.trans h, e2 x h⟩
  | some y =>
    obtain ⟨s, e1, e2⟩ := r.own g y e
    rw [h] at e1
    exact .inr ⟨y, rfl, s, by cases e1; rfl, e2⟩
open Sem (wp)
end ZZ
set_option Elab.async false
set_option linter.all false
set_option maxRecDepth 100000
set_option maxHeartbeats 2000000
namespace ZZ
open PySem PySem.Spec L2 PyProof.Rows GenW
end ZZ
set_option Elab.async false
set_option linter.all false
set_option maxRecDepth 100000
set_option maxHeartbeats 1000000
namespace ZZ
open PySem PySem.Spec L2 PyProof.Rows GenW
end ZZ
set_option Elab.async false
set_option linter.all false
set_option maxRecDepth 100000
namespace ZZ
open PySem PySem.Spec L2 PyProof.Rows GenW
end ZZ
set_option Elab.async false
set_option linter.all false
set_option maxRecDepth 100000
namespace ZZ
open PySem PySem.Spec L2 PyProof.Rows
section
variable {X : Cx} {Z : Zy} {W : WX} {o e : Expr} {es : List Expr} {f g : DE} {fs : List DE} {pos apos cpos : Pos}
def kFmt (v : Val) : DE := fun _ ce => match v with
  | .im (.str y) => if y.length ≤ 1000000 then .ok (.im (.str y)) ce else .stuck
  | .im (.int i) => if i.natAbs.log2 < 1920 then .ok (.im (.str (toString i))) ce else .stuck
  | _ => .stuck
theorem de_fmt (he : PE X e (tE Z W f)) : PE X (.FormattedValue e (-1) none pos) (tE Z W (eUn kFmt f)) :=
  (pe_fmt he).weak fun σ H Q q => tE_imp (fun x H1 ⟨A, F, sl, ce, v, so, hs, r, p⟩ => by
    unfold kFmt at p
    split at p
    · rename_i y
      split at p
      · rename_i hz
        rw [rep_str r]
        refine .inl ⟨y, rfl, ?_, fin_flat so p repS⟩
        have : sizeLine = 16777216 := rfl
        omega
      · exact p.elim
    · rename_i i
      split at p
      · rename_i hz
        rw [rep_int r]
        exact .inr ⟨i, rfl, hz, fin_flat so p repS⟩
      · exact p.elim
    · exact p.elim) (tE1 q)
def kJn : List DE → Str → DE
  | [], acc => eC (.str acc)
  | f :: fs, acc => eBind f fun v => match v with
    | .im (.str y) => if (acc ++ y).length ≤ 1000000 then kJn fs (acc ++ y) else kStuck
    | _ => kStuck
def eFs (fs : List DE) : DE := kJn fs Str.empty
def DJ (X : Cx) (Z : Zy) (W : WX) (es : List Expr) (fs : List DE) : Prop := PJ X es (fs.map (tE Z W))
theorem dj_nil : DJ X Z W [] [] := .nil
theorem dj_cons (h : PE X e (tE Z W f)) (r : DJ X Z W es fs) : DJ X Z W (e :: es) (f :: fs) := .cons h r
theorem kJn_js : ∀ (fs : List DE) (acc : Str) (σ : L2.St) (H : Hp) (Q : VK), tE Z W (kJn fs acc) σ H Q → tJs (fs.map (tE Z W)) acc σ H fun out H1 => Q (.str out) H1
  | [], acc, σ, H, Q, ⟨A, F, sl, ce, so, hs, p⟩ => fin_flat so p repS
  | f :: fs, acc, σ, H, Q, h => tE_imp (fun x H1 ⟨A, F, sl, ce, v, so, hs, r, p⟩ => by
    split at p
    · rename_i y
      split at p
      · rename_i hz
        rw [rep_str r]
        refine ⟨y, rfl, ?_, kJn_js fs (acc ++ y) σ H1 Q ⟨A, F, sl, ce, so, hs, p⟩⟩
        have : sizeLine = 16777216 := rfl
        omega
      · exact p.elim
    · exact p.elim) (tE1 h)
theorem de_joined {v1 v2 : Expr} {rest : List Expr} (h : DJ X Z W (v1 :: v2 :: rest) fs) : PE X (.JoinedStr (v1 :: v2 :: rest) pos) (tE Z W (eFs fs)) :=
  (pe_joined h).weak fun σ H Q q => kJn_js fs Str.empty σ H Q q
end
end ZZ
set_option Elab.async false
set_option linter.all false
set_option maxRecDepth 100000
set_option maxHeartbeats 2000000
namespace ZZ
open PySem PySem.Spec PySem.W PyProof.Rows L2 Builtin
end ZZ
namespace ZZ
open PySem PySem.Spec PySem.W PyProof.Rows L2 Builtin
end ZZ
namespace ZZ
open PySem PySem.Spec PySem.W PyProof.Rows L2
end ZZ
set_option Elab.async false
set_option linter.all false
set_option maxRecDepth 100000
namespace PySem
open Sem (wp)
end PySem
namespace L2
open PySem PySem.Spec PyProof.Rows
def ZHeldS (z TI TO i1 i2 b : Addr) (w : Str) (t : Tok) (i : Nat) (H : Hp) (h : Heap) : Prop :=
  IsPair h TI (.ref i1) (.ref i2) ∧ (∃ x y, IsPair h TO x y) ∧ h.IsStrIter i1 (strIterType w) w t i ∧ h.IsListIter i2 b i ∧ (IsZip h z TI TO .none ∨ ∃ T f xs, IsZipHeld h z TI TO T f ∧ H T = some (.tup xs))
section
variable {X : Cx} {pins : List (Addr × Obj)} {σ : L2.St} {H : Hp} {s : Shared} {z TI TO i1 i2 b q : Addr} {i : Nat} {w : Str} {t : Tok} {ys : List V} {y : V} {c : Nat} {A A1 : Around} {E : Value → Shared → Prop}
theorem ZHeldS.lt (st : ZHeldS z TI TO i1 i2 b w t i H s.heap) : ∀ c ∈ [z, TI, TO, i1, i2], c < s.heap.objs.size := by
  obtain ⟨hTI, ⟨x0, y0, hTO⟩, ⟨o1, h1, _⟩, ⟨o2, h2, _⟩, hz⟩ := st
  have hzl : z < s.heap.objs.size := by
    rcases hz with hz | ⟨T, f, vs, hz, _⟩
    · exact Heap.lt_size hz
    · exact Heap.lt_size hz
  intro c hc
  have e' : c = z ∨ c = TI ∨ c = TO ∨ c = i1 ∨ c = i2 := by simpa using hc
  rcases e' with q | q | q | q | q
  · rw [q]; exact hzl
  · rw [q]; exact Heap.lt_size hTI
  · rw [q]; exact Heap.lt_size hTO
  · rw [q]; exact Heap.lt_size h1
  · rw [q]; exact Heap.lt_size h2
end
end L2
namespace PySem
open Sem (wp)
end PySem
namespace L2
open PySem PySem.Spec PyProof.Rows
end L2
namespace ZZ
open PySem PySem.Spec L2
end ZZ
set_option Elab.async false
set_option linter.all false
set_option maxRecDepth 100000
namespace ZZ
open PySem PySem.Spec L2 L2H
/-- v is None, v may be a cell -/
def kIsNC (neg : Bool) (v u : Val) : DE := fun sl ce => match v, u with
  | .cell _, .im .non => .ok (.im (.bl neg)) ce
  | .im d, .im .non => .ok (.im (.bl (if neg then !d.isNon else d.isNon))) ce
  | _, _ => .stuck
section
variable {X : Cx} {Z : Zy} {W : WX} {p p2 pos : Pos} {e : Expr} {f : DE} {x : Str} {cv : V} {u : Value} {tst : Ty → Option Bool}
theorem ok_isNC (neg : Bool) : Ok2 Z W (kIsNC neg) (fun x y H Q => y = .non ∧ Q (.bl (if neg then !decide (x = .non) else decide (x = .non))) H) := by
  intro A F sl ce v u x y H σ Q so hs rv ru p
  unfold kIsNC at p
  split at p
  · obtain ⟨a, ha, rfl⟩ := rv
    refine ⟨rep_non ru, ?_⟩
    have e : (if neg = true then !decide ((V.ref a : V) = .non) else decide ((V.ref a : V) = .non)) = neg := by cases neg <;> rfl
    rw [e]
    exact fin_flat so p repB
  · refine ⟨rep_non ru, ?_⟩
    rw [rep_isNon rv]
    exact fin_flat so p repB
  · exact p.elim
theorem c_isNC : CmpK X Z W .Is (kIsNC false) := ⟨_, op_isN, ok_isNC false⟩
end
end ZZ
set_option Elab.async false
set_option linter.all false
set_option maxRecDepth 100000
namespace ZZ
open PySem PySem.Spec L2 L2H PyProof.Rows
end ZZ
set_option Elab.async false
set_option linter.all false
set_option maxRecDepth 100000
namespace L2
open PySem PySem.Spec PyProof.Rows ZZ
end L2
namespace ZZ
open PySem PySem.Spec L2
end ZZ
set_option Elab.async false
set_option linter.all false
set_option maxRecDepth 100000
namespace ZZ
open PySem PySem.Spec L2
end ZZ
set_option Elab.async false
set_option linter.all false
set_option maxRecDepth 100000
namespace L2
open PySem PySem.Spec PyProof.Rows
end L2
namespace ZZ
open PySem PySem.Spec L2
end ZZ
set_option Elab.async false
set_option linter.all false
set_option maxRecDepth 100000
namespace ZZ
open PySem PySem.Spec L2
open Classical in
noncomputable def forE (g : GD) (body : DSt) (v : Val) (ds : List D) : List D → DSt
  | [], sl, ce => if asL ce v = some ds then .nx sl ce else .stuck
  | d :: rs, sl, ce => if asL ce v = some ds then (match g d sl with
    | none => .stuck
    | some sl1 => match body sl1 ce with
      | .nx sl2 ce2 => forE g body v ds rs sl2 ce2
      | .ct sl2 ce2 => forE g body v ds rs sl2 ce2
      | .bk sl2 ce2 => .nx sl2 ce2
      | o => o) else .stuck
open Classical in
noncomputable def sForE (f : DE) (g : GD) (body : DSt) : DSt := fun sl ce => match f sl ce with
  | .ok v ce' => match asL ce' v with
    | some ds => forE g body v ds (enumD ds) sl ce'
    | none => .stuck
  | .exc c ds ce' => .exc c ds sl ce'
  | .stuck => .stuck
section
variable {X : Cx} {Z : Zy} {W : WX} {e : Expr} {f : DE} {ix : List Nat} {g : GD} {fb : DSt} {body : List Stmt} {pos p tpos posc : Pos} {elts : List Expr} {kk : Nat}
theorem ds_forE (hK : X.K = Z.K) (hp : PassesOwn (model X.prog X.w) X.A X.env X.xe) (hm : X.mg "enumerate" = none) (he : PE X e (tE Z W f)) (hg : PG X (.Tuple elts kk tpos) (tG Z ix g)) (hb : PSs X body (tS Z W fb)) (hc : X.calm = true := by rfl)
    (hgl : Gl X "enumerate" := by rfl) (hst : starEach [e] X.env = [(false, eval e X.env)] := by rfl) (hst2 : starEach [e] X.env = (false, eval e X.env) :: starEach [] X.env := by rfl) (hs2 : ∀ x, foldedSetIterable (.Call (.Name "enumerate" p) [e] [] posc) X.env x = pure x := by intro _; rfl) :
    PS X (.For (.Tuple elts kk tpos) (.Call (.Name "enumerate" p) [e] [] posc) body [] pos) (tS Z W (sForE f g fb)) := by
  refine (ps_for hp hc (pi_enum hgl hm (da_cons he da_nil hst2) hst) hg hb hs2).weak fun D σ H ⟨A, F, sl, ce, so, hs, p⟩ => ?_
  unfold sForE at p
  refine ⟨A, F, sl, ce, so, hs, ?_⟩
  cases ef : f sl ce with
  | stuck => rw [ef] at p; exact p.elim
  | exc c ds ce1 =>
    rw [ef] at p
    exact fun A1 F1 H1 dx p1 e1 s1 x1 => p A1 F1 H1 σ dx p1 e1 s1 (hs.mono p1 e1) x1
  | ok v ce1 =>
    rw [ef] at p
    intro A1 F1 H1 x p1 e1 so1 r1
    dsimp only at p
    split at p
    · rename_i ds hn
      obtain ⟨l, ws, ex, h1, h2⟩ := asL_rd so1 r1 hn
      subst ex
      refine ⟨l, ws, rfl, by rw [hK]; exact SqL.of h1, ?_⟩
      rw [hK]
      have hel : (enumD ds).length = ds.length := enum_len
      refine ⟨fun i m σ H => m = ds.length - i ∧ i ≤ ds.length ∧ ∃ A F sl ce, A1 <+: A ∧ Same F1 F ∧ SO Z.toZx A F ce H ∧ SL Z A F sl σ ∧ PostS Z A F W D (forE g fb v ds ((enumD ds).drop i) sl ce),
        ⟨ds.length, rfl, Nat.zero_le _, A1, F1, sl, ce1, List.prefix_refl _, Same.refl _, so1, hs.mono p1 e1, p.mono p1 e1⟩, ?_⟩
      rintro i m σ H ⟨rfl, hi, A, F, sl, ce, pA, eF, so, hs, p⟩
      have rv := r1.mono pA eF
      by_cases hlt : i < ds.length
      · rw [List.drop_eq_getElem_cons (by rw [hel]; exact hlt)] at p
        unfold forE at p
        by_cases hc : asL ce v = some ds
        · rw [if_pos hc] at p
          obtain ⟨l', vs, ex, hl, rr⟩ := asL_rd so rv hc
          cases ex
          have hd : (enumD ds)[i]? = some ((enumD ds)[i]'(by rw [hel]; exact hlt)) := List.getElem?_eq_getElem (by rw [hel]; exact hlt)
          obtain ⟨y, hy, ey⟩ := enum_get hd
          obtain ⟨u, hv, ru⟩ := rr.get' hy
          rw [ey] at p
          refine .inr ⟨⟨vs, u, SqL.of hl, hv⟩, fun σ H => i + 1 ≤ ds.length ∧ ∃ A F sl ce, A1 <+: A ∧ Same F1 F ∧ SO Z.toZx A F ce H ∧ SL Z A F sl σ ∧ PostS Z A F W D (forE g fb v ds ((enumD ds).drop (i + 1)) sl ce), fun σ' H' q => ⟨ds.length - (i + 1), by omega, rfl, q⟩, fun x H' ⟨T, z, ex, hT, eH, hz⟩ => ?_⟩
          have hx := hz vs (SqL.of hl)
          rw [hv] at hx
          cases hx
          subst eH ex
          have so3 := so.new (o := .tup [.int (i : Nat), u]) hT
          have e3 : Same F (upd F T (.tup [.int (i : Nat), u])) := same_up (so.fnone hT)
          have rx : Rep Z.toZx (upd F T (.tup [.int (i : Nat), u])) (.tup [.int (i : Int), y]) (.ref T) := rep_pair (so.fnone hT) repIx ru
          refine ⟨A, _, sl, ce, _, so3, hs.mono (List.prefix_refl _) e3, rx, ?_⟩
          cases eg : g (.tup [.int (i : Int), y]) sl with
          | none => rw [eg] at p; exact p.elim
          | some sl1 =>
            rw [eg] at p
            refine ⟨sl1, rfl, fun σ' hs' _ => ⟨A, _, sl1, ce, so3, hs', ?_⟩⟩
            simp only at p
            have p := p.mono (List.prefix_refl _) e3
            cases eb : fb sl1 ce with
            | nx sl2 ce2 => rw [eb] at p; exact fun A3 F3 H3 σ3 p3 e4 so3 hs3 => ⟨hlt, A3, F3, sl2, ce2, pA.trans p3, (eF.trans e3).trans e4, so3, hs3, p.mono p3 e4⟩
            | ct sl2 ce2 => rw [eb] at p; exact fun A3 F3 H3 σ3 p3 e4 so3 hs3 => ⟨hlt, A3, F3, sl2, ce2, pA.trans p3, (eF.trans e3).trans e4, so3, hs3, p.mono p3 e4⟩
            | bk sl2 ce2 => rw [eb] at p; exact p
            | rt v ce2 => rw [eb] at p; exact p
            | exc c es sl2 ce2 => rw [eb] at p; exact p
            | stuck => rw [eb] at p; exact p.elim
        · rw [if_neg hc] at p
          exact p.elim
      · have : i = ds.length := by omega
        subst this
        rw [List.drop_eq_nil_of_le (by rw [hel]; exact Nat.le_refl _)] at p
        unfold forE at p
        by_cases hc : asL ce v = some ds
        · rw [if_pos hc] at p
          obtain ⟨l', vs, ex, hl, rr⟩ := asL_rd so rv hc
          cases ex
          exact .inl ⟨⟨vs, SqL.of hl, by rw [rr.length]; exact Nat.le_refl _⟩, p A F H σ (List.prefix_refl _) (Same.refl _) so hs⟩
        · rw [if_neg hc] at p
          exact p.elim
    · exact p.elim
end
/-- a slot frozen if it holds a cell -/
def frzO (i : Nat) (f : DSt) : DSt := fun sl ce => match sl[i]? with
  | some (some (.cell _)) => frz i f sl ce
  | _ => f sl ce
theorem tS_frzO {Z : Zy} {W : WX} {i : Nat} {h : DSt} {D σ H} (q : tS Z W (frzO i h) D σ H) : tS Z W h D σ H := by
  obtain ⟨A, F, sl, ce, so, hs, p⟩ := q
  unfold frzO at p
  split at p
  · exact tS_frz ⟨A, F, sl, ce, so, hs, p⟩
  · exact ⟨A, F, sl, ce, so, hs, p⟩
theorem ds_frzO {X : Cx} {Z : Zy} {W : WX} {i : Nat} {st : Stmt} {h : DSt} (q : PS X st (tS Z W h)) : PS X st (tS Z W (frzO i h)) := q.weak fun D σ H q => tS_frzO q
/-- a class made with one value by place, one by name (its default not used) -/
abbrev KwD (P : Program) (w : World) (K : PySem.W.Frag) (mg : Str → Option Value) (base : Heap) (k : Nat) (a : Addr) (ps : List Str) (k1 : Str) (sp : Sp) : Prop :=
  ∃ fd, FnOk P w K mg base (L2N.CX P w) k a fd ps sp ∧ KBn K fd ps 2 [k1] (fun us ws => us ++ ws) (fun vs zs => vs ++ zs)
/-- raises nothing -/
def kMakeQ (c nf : Nat) (fh : DF) (vs : List Val) : DE := fun sl ce => match kMake c nf fh vs sl ce with
  | .ok u ce' => .ok u ce'
  | _ => .stuck
section
variable {X : Cx} {Z : Zy} {W : WX} {k c nf : Nat} {fa : Addr} {fh : DF} {k1 x : Str} {ps : List Str} {e1 e2 : Expr} {f1 f2 : DE} {p kp pos : Pos}
theorem de_makeK1 (M : Mk X.K (Z.cl c) fa) (G : KwD X.prog X.w X.K X.mg X.base k fa ps k1 (spD Z.toZx fh 3)) (hr : Room (k + 1) X.A) (hm : X.mg x = some (.ref (Z.cl c))) (ha : PE X e1 (tE Z W f1)) (hb : PE X e2 (tE Z W f2)) (hfl : (Z.fl c).length = nf)
    (hg : Gl X x := by rfl) (hdb : (x == ("__debug__" : Str)) = false := by decide) (hst : starEach [e1] X.env = (false, eval e1 X.env) :: starEach [] X.env := by rfl)
    (hall : (backToKw pos (keywordEach [⟨some k1, e2, kp⟩] X.env)).all (·.1.isSome) = true := by rfl) (hks : (backToKw pos (keywordEach [⟨some k1, e2, kp⟩] X.env)).filterMap (·.1) = [k1] := by rfl)
    (hpl : ((backTo pos (starEach [e1] X.env)).any (·.1) || (backToKw pos (keywordEach [⟨some k1, e2, kp⟩] X.env)).any (·.1.isNone)) = false := by rfl) :
    PE X (.Call (.Name x p) [e1] [⟨some k1, e2, kp⟩] pos) (tE Z W (eArgs [f1, f2] (kMakeQ c nf fh))) := by
  obtain ⟨fd, F0, b⟩ := G
  refine (pe_makeK (E := fun _ _ _ => False) M F0 hr hg hm b pass_none (da_cons (Z := Z) (W := W) ha da_nil hst) (pk_cons hb pk_nil) hall hks hdb hst hpl).weak fun σ H Q h => ?_
  have h2 := tN h
  refine tE_imp (fun v H1 h1 => tE_imp (fun u H2 ⟨A, F, sl, ce, vs, so, hs, r, l, q⟩ => ?_) h1) h2
  refine ⟨rfl, rfl, ?_⟩
  have hv : ∃ v u, vs = [v, u] := by
    match vs, l with
    | [v, u], _ => exact ⟨v, u, rfl⟩
  obtain ⟨v', u', rfl⟩ := hv
  have q2 : PostE Z A F WF σ Q (kMake c nf fh [v', u'] sl ce) := by
    unfold kMakeQ at q
    split at q
    · rename_i w ce' e
      rw [e]
      exact q
    · exact q.elim
  exact make_core (W := WF) (n := 2) (vs := [v', u']) (xs := [v, u]) (sl := sl) (σ := σ) (Q := Q) so r rfl hfl q2
end
end ZZ
set_option Elab.async false
set_option linter.all false
set_option maxRecDepth 100000
set_option maxHeartbeats 1000000
namespace ZZ
open PySem PySem.Spec L2 PyProof.Rows GenW
end ZZ
set_option Elab.async false
set_option linter.all false
set_option maxRecDepth 100000
set_option maxHeartbeats 1000000
namespace ZZ
open PySem PySem.Spec L2 PyProof.Rows GenW
end ZZ
set_option Elab.async false
set_option linter.all false
set_option maxRecDepth 100000
namespace ZZ
open PySem PySem.Spec L2
def noRws (ce : List Cell) : Bool := ce.all fun c => match c with
  | .rws _ => false
  | _ => true
def only (n : Nat) (ce : List Cell) : Bool := noRws (ce.set n .dead)
end ZZ
set_option Elab.async false
set_option linter.all false
set_option maxRecDepth 100000
set_option maxHeartbeats 1000000
namespace ZZ
open PySem PySem.Spec L2 PyProof.Rows GenW
end ZZ
set_option Elab.async false
set_option linter.all false
set_option maxRecDepth 100000
set_option maxHeartbeats 1000000
namespace ZZ
open PySem PySem.Spec L2 PyProof.Rows GenW
/-- behind a call that let an exception out: what is pinned is no part of what the def knows -/
def CXP (P : Program) (w : World) (outer : List Env) (H : Hp) (s : Shared) (E : XK) (pn : List (Addr × Obj)) (u : Value) (s' : Shared) : Prop :=
  ∃ (a : Addr) (B : Heap) (H' : Hp) (cls : Value) (d : Option Addr), u = .ref a ∧ HandSPX.FlyingZ B outer a (L2N.Zn cls d) s'.heap ∧ HOk P w H' B ∧ UB (frs outer) H H' s.heap B s'.heap ∧ H' a = none ∧ s'.os = s.os ∧ AllBare s'.gens ∧ E cls d H' ∧ ∀ p ∈ pn, B.get? p.1 = some p.2 ∧ H' p.1 = none
theorem CXP.weak {P : Program} {w : World} {outer : List Env} {H : Hp} {s s' : Shared} {E : XK} {pn : List (Addr × Obj)} {u : Value} (x : CXP P w outer H s E pn u s') : L2.CX P w outer H s E u s' := by
  obtain ⟨a, B, H', cls, d, e, fl, hok, ub, na, os, ag, hE, _⟩ := x
  obtain ⟨f1, f2, f3, oe, vs, T, oT, ts, g1, g2, g3⟩ := fl
  exact ⟨a, B, H', cls, d, e, ⟨f1, f2, f3, oe, vs, T, oT, ts, g1, g2.zc, g3⟩, hok, ub, na, os, ag, hE⟩
/-- an exception in the air of X; the object at C is no part of its ground -/
def XEc (X : Cx) (W : WX) (C : Addr) (u : Value) (s' : Shared) : Prop :=
  ∃ (a : Addr) (B : Heap) (sI : Shared) (pins : List (Addr × Obj)) (σ : L2.St) (H : Hp) (cls : Value) (d : Option Addr),
    u = .ref a ∧ Inv X pins σ H sI ∧ (∀ b o, sI.heap.get? b = some o → b ∉ frs X.stack → B.get? b = some o) ∧ sI.heap.UpToSlots s'.heap ∧
      Sky B X.stack a (L2N.Zn cls d) X.env.locals s'.heap ∧ H a = none ∧ s'.os = sI.os ∧ AllBare s'.gens ∧ W cls d σ H ∧ B.get? C = none ∧ C ∉ frs X.stack ∧ sI.heap.get? C = none ∧ ∃ oC, s'.heap.get? C = some oC ∧ ∀ vs, oC.data ≠ .fields vs
theorem XEc.xe {X : Cx} {W : WX} {C : Addr} {u : Value} {s' : Shared} (x : XEc X W C u s') : L2N.XE X W u s' := by
  obtain ⟨a, B, sI, pins, σ, H, cls, d, h1, h2, h3, h4, h5, h6, h7, h8, h9, _⟩ := x
  exact ⟨a, B, sI, pins, σ, H, cls, d, h1, h2, h3, h4, h5, h6, h7, h8, h9⟩
theorem traced_but {h h' B : Heap} {a C : Addr} {Z : Obj → Prop} {fl : Value} {oC : Obj} (t : HandSPX.TracedZ h B a Z fl) (hC : h.get? C = some oC) (hf : ∀ vs, oC.data ≠ .fields vs) (k : ∀ b, b ≠ C → h'.get? b = h.get? b) : HandSPX.TracedZ h' B a Z fl := by
  obtain ⟨oe, vs, T, oT, ts, g1, g2, g3, g4, g5, g6, g7, g8, g9⟩ := t
  refine ⟨oe, vs, T, oT, ts, (k a fun e => ?_).trans g1, g2, g3, g4, g5, g6, (k T fun e => ?_).trans g7, g8, g9⟩
  · rw [e, hC] at g1
    cases g1
    exact hf _ g3
  · rw [e, hC] at g7
    cases g7
    exact hf _ g8
theorem funs_but {h h' B : Heap} {C : Addr} (k : ∀ b, b ≠ C → h'.get? b = h.get? b) : ∀ {l : List Env}, C ∉ frs l → h.FunFrames B l → h'.FunFrames B l
  | [], _, _ => trivial
  | env :: l, n, ⟨x1, ⟨L, o, y1, y2, y3, y4⟩, x3⟩ => by
    have nL : L ≠ C := fun e => n (by unfold frs; rw [List.filterMap_cons, y1, e]; exact List.mem_cons_self)
    exact ⟨x1, ⟨L, o, y1, y2, (k L nL).trans y3, y4⟩, funs_but k (fun z => n (by unfold frs at z ⊢; rw [List.filterMap_cons, y1]; exact List.mem_cons_of_mem _ z)) x3⟩
/-- only the object at C changes -/
theorem XEc.but {X : Cx} {W : WX} {C : Addr} {u : Value} {s s' : Shared} {oC : Obj} (x : XEc X W C u s) (k : ∀ b, b ≠ C → s'.heap.get? b = s.heap.get? b) (hC : s'.heap.get? C = some oC) (hf : ∀ vs, oC.data ≠ .fields vs) (os : s'.os = s.os) (ge : s'.gens = s.gens) : XEc X W C u s' := by
  obtain ⟨a, B, sI, pins, σ, H, cls, d, h1, h2, h3, h4, h5, h6, h7, h8, h9, c1, c2, c3, o0, c4, c5⟩ := x
  have kb : ∀ b o, B.get? b = some o → s'.heap.get? b = s.heap.get? b := fun b o e => k b fun z => by rw [z, c1] at e; cases e
  refine ⟨a, B, sI, pins, σ, H, cls, d, h1, h2, h3, fun b o e n => ?_, ?_, h6, os.trans h7, by rw [ge]; exact h8, h9, c1, c2, c3, oC, hC, hf⟩
  · obtain ⟨sl, z⟩ := h4 b o e n
    exact ⟨sl, (k b fun q => by rw [q, c3] at e; cases e).trans z⟩
  · rcases h5 with ⟨y1, y2, y3, oe, vs, y4, y5, y6, y7⟩ | ⟨y1, y2, y3, y4⟩ | ⟨y1, y2, y3, y4⟩
    · exact .inl ⟨fun b o e => (kb b o e).trans (y1 b o e), y2, funs_but k c2 y3, oe, vs, (k a fun e => by rw [e, c4] at y4; cases y4; exact c5 _ y6).trans y4, y5, y6, y7⟩
    · exact .inr (.inl ⟨fun b o e => (kb b o e).trans (y1 b o e), y2, funs_but k c2 y3, traced_but y4 c4 c5 k⟩)
    · exact .inr (.inr ⟨fun b o e => (kb b o e).trans (y1 b o e), y2, funs_but k c2 y3, traced_but y4 c4 c5 k⟩)
/-- and is noted here: then it stands held -/
def XEh (X : Cx) (W : WX) (C : Addr) (u : Value) (s' : Shared) : Prop :=
  ∃ (a : Addr) (B : Heap) (sI : Shared) (pins : List (Addr × Obj)) (σ : L2.St) (H : Hp) (cls : Value) (d : Option Addr),
    u = .ref a ∧ Inv X pins σ H sI ∧ (∀ b o, sI.heap.get? b = some o → b ∉ frs X.stack → B.get? b = some o) ∧ sI.heap.UpToSlots s'.heap ∧
      HandSPX.HeldZ B X.stack a (L2N.Zn cls d) X.env.locals s'.heap ∧ H a = none ∧ s'.os = sI.os ∧ AllBare s'.gens ∧ W cls d σ H ∧ B.get? C = none ∧ C ∉ frs X.stack ∧ sI.heap.get? C = none ∧ ∃ oC, s'.heap.get? C = some oC ∧ ∀ vs, oC.data ≠ .fields vs
theorem XEh.but {X : Cx} {W : WX} {C : Addr} {u : Value} {s s' : Shared} {oC : Obj} (x : XEh X W C u s) (k : ∀ b, b ≠ C → s'.heap.get? b = s.heap.get? b) (hC : s'.heap.get? C = some oC) (hf : ∀ vs, oC.data ≠ .fields vs) (os : s'.os = s.os) (ge : s'.gens = s.gens) : XEh X W C u s' := by
  obtain ⟨a, B, sI, pins, σ, H, cls, d, h1, h2, h3, h4, ⟨y1, y2, y3, y4⟩, h6, h7, h8, h9, c1, c2, c3, o0, c4, c5⟩ := x
  have kb : ∀ b o, B.get? b = some o → s'.heap.get? b = s.heap.get? b := fun b o e => k b fun z => by rw [z, c1] at e; cases e
  refine ⟨a, B, sI, pins, σ, H, cls, d, h1, h2, h3, fun b o e n => ?_, ⟨fun b o e => (kb b o e).trans (y1 b o e), y2, funs_but k c2 y3, traced_but y4 c4 c5 k⟩, h6, os.trans h7, by rw [ge]; exact h8, h9, c1, c2, c3, oC, hC, hf⟩
  obtain ⟨sl, z⟩ := h4 b o e n
  exact ⟨sl, (k b fun q => by rw [q, c3] at e; cases e).trans z⟩
theorem XEh.on {X : Cx} {W : WX} {C : Addr} {u : Value} {s : Shared} {cenv : Env} {α : Type} {Q : α → Shared → Prop} {what : String} (hs : X.stack = X.env :: X.outer) (hf : X.env.frame = some X.env.locals) (hc : cenv.frame = X.env.frame) (tk : L2N.Takes X W) (x : XEh X W C u s) :
    wpAny (model X.prog X.w) X.A (PySem.passOn what u cenv : Sem α) Q X.xe s := by
  obtain ⟨a, B, sI, pins, σ, H, cls, d, rfl, h2, h3, h4, h5, h6, h7, h8, h9, c1, c2, c3, o0, c4, c5⟩ := x
  have h5' := h5
  obtain ⟨f1, f2, f3, oe, vs, T, oT, ts, g1, g2, g3, g4, g5⟩ := h5'
  unfold PySem.passOn
  refine wpAny_bind (wpAny_field g1 g3 g4 ?_)
  rw [if_neg (show ¬ ((Value.ref T == Value.none) = true) from by simp)]
  rw [hc, hf]
  refine wpAny_bind (HandSPX.setFlight_onZ h5 fun h' hh up => wpAny_throw (tk _ _ ?_))
  exact ⟨a, B, sI, pins, σ, H, cls, d, rfl, h2, h3, h4.trans up, .inr (.inr hh), h6, h7, h8, h9⟩
end ZZ
set_option Elab.async false
set_option linter.all false
set_option maxRecDepth 100000
set_option maxHeartbeats 1000000
namespace ZZ
open PySem PySem.Spec L2 PyProof.Rows GenW
end ZZ
set_option Elab.async false
set_option linter.all false
set_option maxRecDepth 100000
set_option maxHeartbeats 1000000
namespace ZZ
open PySem PySem.Spec L2 PyProof.Rows GenW
end ZZ
set_option Elab.async false
set_option linter.all false
set_option maxRecDepth 100000
set_option maxHeartbeats 1000000
namespace ZZ
open PySem PySem.Spec L2 PyProof.Rows GenW
end ZZ
set_option Elab.async false
set_option linter.all false
set_option maxRecDepth 100000
namespace ZZ
open PySem PySem.Spec L2
end ZZ
set_option Elab.async false
set_option linter.all false
set_option maxRecDepth 100000
namespace PySem
open Sem (wp)
open SeqAt
end PySem
namespace L2
open PySem PySem.Spec PyProof.Rows ZZ
end L2
namespace ZZ
open PySem PySem.Spec L2
end ZZ
set_option Elab.async false
set_option linter.all false
set_option maxRecDepth 100000
set_option maxHeartbeats 1000000
namespace ZZ
open PySem PySem.Spec L2 PyProof.Rows GenW
end ZZ
set_option Elab.async false
set_option linter.all false
set_option maxRecDepth 100000
set_option maxHeartbeats 1000000
namespace ZZ
open PySem PySem.Spec L2 PyProof.Rows GenW
/-- what is wanted, by the tracked objects at the last waking -/
abbrev YF : Type := Hp → YEnds
end ZZ
set_option Elab.async false
set_option linter.all false
set_option maxRecDepth 100000
set_option maxHeartbeats 1000000
namespace ZZ
open PySem PySem.Spec L2 PyProof.Rows GenW
/-- at each value: what has gone out is a part of out; I: the tracked objects at the last waking -/
def AtF (Z : Zy) (F : Hp) (out : List D) (D : YF) : Prop :=
  ∀ F' H' I ds d ys x, Same F F' → Same I F' → SO Z.toZx [] F' [] H' → Reps Z.toZx F' ds ys → Rep Z.toZx F' d x → ds ++ [d] <+: out → (D I).yl ys x H' (fun J => Same F' J)
theorem AtF.mono {Z : Zy} {F F' : Hp} {out : List D} {D : YF} (h : AtF Z F out D) (e : Same F F') : AtF Z F' out D :=
  fun F2 H2 I ds d ys x e2 => h F2 H2 I ds d ys x (e.trans e2)
theorem AtF.sub {Z : Zy} {F : Hp} {out o2 : List D} {D : YF} (h : AtF Z F out D) (q : o2 <+: out) : AtF Z F o2 D :=
  fun F2 H2 I ds d ys x e2 i2 s r1 r2 l => h F2 H2 I ds d ys x e2 i2 s r1 r2 (l.trans q)
def PostF (Z : Zy) (A : List Addr) (F : Hp) (W : WX) (D : YF) (r : List ZZ.D × Out) : Prop := ∀ A0 F0 ys0, A <+: A0 → Same F F0 → Reps Z.toZx F0 r.1 ys0 → match r.2 with
  | .nx sl ce => ∀ A' F' H' σ', A0 <+: A' → Same F0 F' → SO Z.toZx A' F' ce H' → SL Z A' F' sl σ' → ∀ I, Same I F' → (D I).nx ys0 σ' H'
  | .bk sl ce => ∀ A' F' H' σ', A0 <+: A' → Same F0 F' → SO Z.toZx A' F' ce H' → SL Z A' F' sl σ' → ∀ I, Same I F' → (D I).bk ys0 σ' H'
  | .ct sl ce => ∀ A' F' H' σ', A0 <+: A' → Same F0 F' → SO Z.toZx A' F' ce H' → SL Z A' F' sl σ' → ∀ I, Same I F' → (D I).ct ys0 σ' H'
  | .rt v ce => ∀ A' F' H' x, A0 <+: A' → Same F0 F' → SO Z.toZx A' F' ce H' → VRep Z A' F' v x → ∀ I, Same I F' → (D I).rt ys0 x H'
  | .exc c es sl ce => ∀ A' F' H' σ' dx, A0 <+: A' → Same F0 F' → SO Z.toZx A' F' ce H' → SL Z A' F' sl σ' → ExcOk Z.toZx F' c es dx → W (.ref (Z.cl c)) dx σ' H'
  | .stuck => False
theorem PostF.mono {Z : Zy} {A A' : List Addr} {F F' : Hp} {W : WX} {D : YF} {r : List ZZ.D × Out} (p : A <+: A') (e : Same F F') (h : PostF Z A F W D r) : PostF Z A' F' W D r :=
  fun A0 F0 ys0 p0 e0 r0 => h A0 F0 ys0 (p.trans p0) (e.trans e0) r0
theorem PostF.at {Z : Zy} {A : List Addr} {F I : Hp} {W : WX} {D : YF} {ds : List ZZ.D} {o : Out} {ys : List V} (h : PostF Z A F W D (ds, o)) (r : Reps Z.toZx F ds ys) (si : Same I F) : PostS Z A F W ((D I).at ys) o := by
  have q := h A F ys (List.prefix_refl _) (Same.refl _) r
  cases o with
  | nx sl ce => exact fun A' F' H' σ' p e so hs => q A' F' H' σ' p e so hs I (si.trans e)
  | bk sl ce => exact fun A' F' H' σ' p e so hs => q A' F' H' σ' p e so hs I (si.trans e)
  | ct sl ce => exact fun A' F' H' σ' p e so hs => q A' F' H' σ' p e so hs I (si.trans e)
  | rt v ce => exact fun A' F' H' x p e so hs => q A' F' H' x p e so hs I (si.trans e)
  | exc c es sl ce => exact q
  | stuck => exact q
end ZZ
set_option Elab.async false
set_option linter.all false
set_option maxRecDepth 100000
set_option maxHeartbeats 1000000
namespace ZZ
open PySem PySem.Spec L2 PyProof.Rows GenW
end ZZ
set_option Elab.async false
set_option linter.all false
set_option maxRecDepth 100000
set_option maxHeartbeats 1000000
namespace ZZ
open PySem PySem.Spec L2 PyProof.Rows GenW
end ZZ
set_option Elab.async false
set_option linter.all false
set_option maxRecDepth 100000
set_option maxHeartbeats 2000000
namespace ZZ
open PySem PySem.Spec L2 PyProof.Rows GenW
end ZZ
set_option Elab.async false
set_option linter.all false
set_option maxRecDepth 100000
set_option maxHeartbeats 2000000
namespace ZZ
open PySem PySem.Spec L2 PyProof.Rows GenW
/-- a cell's kind: gone, a list, something else -/
def ck : Cell → Nat
  | .dead => 0
  | .lst _ => 1
  | .ptr _ => 1
  | _ => 2
end ZZ
set_option Elab.async false
set_option linter.all false
set_option maxRecDepth 100000
set_option maxHeartbeats 1000000
namespace PySem.W
open PySem PySem.Spec PySem.Calls PyProof.Rows
end PySem.W
namespace L2
open PySem PySem.Spec PyProof.Rows NdefX
end L2
namespace ZZ
open PySem PySem.Spec L2 PyProof.Rows GenW
/-- a def called by the keywords ks behind j values: pm tells where the parameters stand -/
structure MKp (P : Program) (w : World) (K : PySem.W.Frag) (mg : Str → Option Value) (base : Heap) (Z : Zx) (k : Nat) (f : Addr) (j : Nat) (ks : List Str) (pm : List Nat) (n : Nat) (fh : DF) : Prop where
  ex : ∃ fd ps, FnOk P w K mg base (L2N.CX P w) k f fd ps (spD Z fh n) ∧ KBn K fd ps j ks (fun us ws => us ++ pick pm ws) (fun vs zs => vs ++ pick pm zs)
  len : ∀ {α : Type} (l : List α), l.length = ks.length → j + (pick pm l).length = n
theorem pick_all {pm : List Nat} {zs : List Val} (h : zs.all plainV = true) : (pick pm zs).all plainV = true := by
  refine List.all_eq_true.mpr fun v hv => ?_
  unfold pick at hv
  obtain ⟨i, _, e⟩ := List.mem_filterMap.mp hv
  exact List.all_eq_true.mp h v (List.mem_of_getElem? e)
abbrev gPk (pm : List Nat) (vs zs : List Val) : List Val := vs ++ pick pm zs
theorem MKp.w {P : Program} {w : World} {K : PySem.W.Frag} {mg : Str → Option Value} {base : Heap} {Z : Zx} {k j n : Nat} {f : Addr} {ks : List Str} {pm : List Nat} {fh : DF} (M : MKp P w K mg base Z k f j ks pm n fh) : MKw P w K mg base Z k f j ks (gPk pm) fh n := by
  obtain ⟨fd, ps, F, kb⟩ := M.ex
  exact ⟨fd, ps, _, _, F, kb, ⟨fun r1 r2 _ _ => vreps_append r1 (r2.pick (Z := _) pm), fun h1 h2 _ _ => by rw [gPk, List.all_append, h1, pick_all h2]; rfl, fun h1 h2 => by rw [gPk, List.length_append, h1]; exact M.len _ h2⟩⟩
end ZZ
namespace ZH
open PySem PySem.Spec L2 ZZ
end ZH
set_option Elab.async false
set_option linter.all false
set_option maxRecDepth 100000
set_option maxHeartbeats 2000000
namespace HotX
open PySem PySem.Spec PyProof.Rows
section
variable {prog : Program} {w : World} {A : Around} {E : Value → Shared → Prop} {s : Shared} {x1 : Addr}
theorem HotAt.keep {h h' : Heap} (t : HotAt A x1 h) (k : ∀ b o, h.get? b = some o → h'.get? b = some o) : HotAt A x1 h' := by
  obtain ⟨z, o, vs, a, b, c⟩ := t
  exact ⟨z, o, vs, k _ _ a, b, c⟩
theorem HotAt.but {h h' : Heap} {i : Addr} (t : HotAt A x1 h) (hi : x1 ≠ i) (k : Heap.ExtBut i h h') : HotAt A x1 h' := by
  obtain ⟨z, o, vs, a, b, c⟩ := t
  exact ⟨z, o, vs, k _ _ hi a, b, c⟩
theorem HotAt.old {h : Heap} (t : HotAt A x1 h) : ∃ o, h.get? x1 = some o := by
  obtain ⟨z, o, vs, a, b, c⟩ := t
  exact ⟨o, a⟩
/-- the end of an iterator, while an exception is handled -/
theorem stop_hot {α : Type} {Q : α → Shared → Prop} (t : HotAt A x1 s.heap) (hE : ∀ h' e, (∀ b o, s.heap.get? b = some o → h'.get? b = some o) → (∃ o, h'.get? e = some o ∧ o.cls = .type "StopIteration") → E (.ref e) { s with heap := h' }) :
    wpAny (model prog w) A (newExc (.type "StopIteration") [] >>= fun e => (raiseNew e : Sem α)) Q E s := by
  obtain ⟨hh, o1, vs1, h1, d1, c1⟩ := t
  refine wpAny_bind ?_
  simp only [newExc, newTuple]
  refine wpAny_bind (wpAny_newObj_type ?_ (by size_fits))
  refine wpAny_bind (m := firstArgMember _ _) (wpAny_of_eq (a := Value.none) (by first | rfl | (simp only [firstArgMember]; rfl)) ?_)
  refine wpAny_newObj_type ?_ (by size_fits)
  refine raiseNew_hot ⟨hh, o1, vs1, Heap.get?_push_of_some _ (Heap.get?_push_of_some _ h1), d1, c1⟩ (Nat.ne_of_lt (Heap.lt_size (Heap.get?_push_of_some _ h1))) (Heap.get?_push_size _ rfl) rfl (by first | (simp; done) | (simp; omega) | (simp only [Array.size_append]; simp; omega)) ?_
  refine hE _ _ (fun b o e => ?_) ⟨_, Heap.get?_update_self _ (Heap.get?_push_size _ rfl) rfl, rfl⟩
  rw [Heap.get?_update_other _ _ (Nat.ne_of_gt (Heap.lt_size (Heap.get?_push_of_some _ e)))]
  exact Heap.get?_push_of_some _ (Heap.get?_push_of_some _ e)
theorem next_list_end {it l : Addr} {i : Nat} {items} {Q : Option Value → Shared → Prop} (t : HotAt A x1 s.heap) (hi : x1 ≠ it) (hit : s.heap.IsListIter it l i) (hl : s.heap.IsList l items) (hx : items[i]? = none)
    (hQ : ∀ h', Heap.ExtBut it s.heap h' → Q none { s with heap := h' }) : wpAny (model prog w) A (pyNext (.ref it)) Q E s := by
  obtain ⟨o, ho, hc, hd⟩ := id hit
  obtain ⟨ol, hol, _, nl, hdl⟩ := hl
  unfold pyNext
  refine wpAny_bind (wpAny_attempt (wpAny_callSpecial?_slot (name := Str.ofString "__next__") hit.typeIs slot_listiter_next
    (wpAny_call_entry slot_listiter_next hit.typeIs entry_listiter_next ?_ (args_listiter_next _))))
  show wpAny _ _ (field (.ref it) 0 >>= _) _ _ s
  refine wpAny_bind (wpAny_field ho hd (x := .ref l) rfl ?_)
  show wpAny _ _ (if (Value.ref l == Value.none) = true then _ else _) _ _ s
  rw [if_neg (show ¬ ((Value.ref l == Value.none) = true) from Bool.false_ne_true)]
  show wpAny _ _ (field (.ref it) 1 >>= _) _ _ s
  refine wpAny_bind (wpAny_field ho hd (x := .int i 0) rfl ?_)
  show wpAny _ _ (seqItems? (.ref l) >>= _) _ _ s
  refine wpAny_bind (wpAny_seqItems hol hdl ?_)
  simp only [Int.toNat_natCast, hx]
  refine wpAny_bind (wpAny_rule (wpAny_bind (wpAny_setField ho hd (by simp) ?_)))
  refine stop_hot (x1 := x1) ?_ fun h' e k hs => ?_
  · exact t.but hi (Heap.SameBut.update ..).extBut
  obtain ⟨oe, he, hce⟩ := hs
  refine wpAny_bind (wpAny_isInstance (T := "StopIteration") (b := true) ⟨oe, he, hce⟩ isSubtype_stop ?_)
  exact wpAny_pure (hQ _ fun b o hb e => k b o ((Heap.SameBut.update ..).extBut b o hb e))
theorem nextOf_list_end {it l : Addr} {i : Nat} {items} {Q : Value → Shared → Prop} (t : HotAt A x1 s.heap) (hi : x1 ≠ it) (hit : s.heap.IsListIter it l i) (hl : s.heap.IsList l items) (hx : items[i]? = none)
    (hE : ∀ h' e, Heap.ExtBut it s.heap h' → (∃ o, h'.get? e = some o ∧ o.cls = .type "StopIteration") → E (.ref e) { s with heap := h' }) : wpAny (model prog w) A (Builtin.SmallTypes.nextOf (.ref it)) Q E s := by
  obtain ⟨o, ho, hc, hd⟩ := id hit
  obtain ⟨ol, hol, _, nl, hdl⟩ := hl
  unfold Builtin.SmallTypes.nextOf
  refine wpAny_bind (wpAny_callSpecial?_slot (name := Str.ofString "__next__") hit.typeIs slot_listiter_next
    (wpAny_call_entry slot_listiter_next hit.typeIs entry_listiter_next ?_ (args_listiter_next _)))
  show wpAny _ _ (field (.ref it) 0 >>= _) _ _ s
  refine wpAny_bind (wpAny_field ho hd (x := .ref l) rfl ?_)
  show wpAny _ _ (if (Value.ref l == Value.none) = true then _ else _) _ _ s
  rw [if_neg (show ¬ ((Value.ref l == Value.none) = true) from Bool.false_ne_true)]
  show wpAny _ _ (field (.ref it) 1 >>= _) _ _ s
  refine wpAny_bind (wpAny_field ho hd (x := .int i 0) rfl ?_)
  show wpAny _ _ (seqItems? (.ref l) >>= _) _ _ s
  refine wpAny_bind (wpAny_seqItems hol hdl ?_)
  simp only [Int.toNat_natCast, hx]
  refine wpAny_bind (wpAny_rule (wpAny_bind (wpAny_setField ho hd (by simp) ?_)))
  refine stop_hot (x1 := x1) ?_ fun h' e k hs => ?_
  · exact t.but hi (Heap.SameBut.update ..).extBut
  exact hE h' e (fun b o hb e => k b o ((Heap.SameBut.update ..).extBut b o hb e)) hs
theorem next_tuple_end {it t : Addr} {i : Nat} {items} {Q : Option Value → Shared → Prop} (z : HotAt A x1 s.heap) (hi : x1 ≠ it) (hit : s.heap.IsTupleIter it t i) (ht : s.heap.IsTuple t items) (hx : items[i]? = none)
    (hQ : ∀ h', Heap.ExtBut it s.heap h' → Q none { s with heap := h' }) : wpAny (model prog w) A (pyNext (.ref it)) Q E s := by
  obtain ⟨o, ho, hc, hd⟩ := id hit
  obtain ⟨ol, hol, _, nl, hdl⟩ := ht
  unfold pyNext
  refine wpAny_bind (wpAny_attempt (wpAny_callSpecial?_slot (name := Str.ofString "__next__") hit.typeIs F.slot_tuple_iterator_next
    (wpAny_call_entry F.slot_tuple_iterator_next hit.typeIs F.entry_tuple_iterator_next ?_ (F.args_tuple_iterator_next_1 _))))
  show wpAny _ _ (field (.ref it) 0 >>= _) _ _ s
  refine wpAny_bind (wpAny_field ho hd (x := .ref t) rfl ?_)
  show wpAny _ _ (if (Value.ref t == Value.none) = true then _ else _) _ _ s
  rw [if_neg (show ¬ ((Value.ref t == Value.none) = true) from Bool.false_ne_true)]
  show wpAny _ _ (field (.ref it) 1 >>= _) _ _ s
  refine wpAny_bind (wpAny_field ho hd (x := .int i 0) rfl ?_)
  show wpAny _ _ (seqItems? (.ref t) >>= _) _ _ s
  refine wpAny_bind (wpAny_seqItems hol hdl ?_)
  simp only [Int.toNat_natCast, hx]
  refine wpAny_bind (wpAny_rule (wpAny_bind (wpAny_setField ho hd (by simp) ?_)))
  refine stop_hot (x1 := x1) ?_ fun h' e k hs => ?_
  · exact z.but hi (Heap.SameBut.update ..).extBut
  obtain ⟨oe, he, hce⟩ := hs
  refine wpAny_bind (wpAny_isInstance (T := "StopIteration") (b := true) ⟨oe, he, hce⟩ isSubtype_stop ?_)
  exact wpAny_pure (hQ _ fun b o hb e => k b o ((Heap.SameBut.update ..).extBut b o hb e))
/-- target, .. = a tuple, while an exception is handled -/
theorem assign_tup {env : Env} {elts : List Expr} {k} {pos : Pos} {t : Addr} {items : Array Value} {Q : Unit → Shared → Prop} (z : HotAt A x1 s.heap) (ht : PyProof.Rows.IsTup s.heap t items)
    (hn : (assignEach elts env).length = items.size) (hstar : (assignEach elts env).findIdx? (·.1) = none)
    (h : ∀ h', Heap.ExtBut s.heap.objs.size s.heap h' → wpAny (model prog w) A (assignInOrder ((assignEach elts env).map (·.2)) items.toList) Q E { s with heap := h' }) :
    wpAny (model prog w) A (assign (.Tuple elts k pos) env (.ref t)) Q E s := by
  rw [PyProof.Rows.assign_Tuple]
  refine wpAny_bind (wpAny_standAt ?_)
  unfold unpack
  rw [hn, hstar]
  refine wpAny_bind (wpAny_holding ?_)
  have hlt : t ≠ s.heap.objs.size := by obtain ⟨o, ho, _⟩ := ht; exact Nat.ne_of_lt (Heap.lt_size ho)
  have hl1 : x1 < s.heap.objs.size := by obtain ⟨o, ho⟩ := z.old; exact Heap.lt_size ho
  show wpAny _ _ (unpackItems (.ref t) items.size none) _ _ _
  unfold unpackItems
  refine wpAny_bind ?_
  unfold notIterableAtAll
  refine wpAny_bind (wpAny_specialOf ht.typeIs slot_tuple_iter.lookup ?_)
  refine wpAny_pure ?_
  simp only [Bool.false_eq_true, if_false]
  refine wpAny_bind (wpAny_holding (iter_tuple ht ?_))
  refine wpAny_bind (wpAny_holding (draw_tuple hlt items.size 0 _ _ ⟨_, Heap.get?_push_size _ rfl, rfl, rfl⟩ (ht.push _) (by omega) fun h₁ hit₁ hs₁ => ?_))
  have hall : List.take items.size (List.drop 0 items.toList) = items.toList := by
    rw [List.drop_zero]; exact List.take_of_length_le (by simp)
  rw [hall]
  rw [if_neg (by simp)]
  have ht₁ : IsTup h₁ t items := (ht.push _).extBut hs₁.extBut hlt
  have z₁ : HotAt A x1 h₁ := (z.keep fun b o e => Heap.get?_push_of_some _ e).but (Nat.ne_of_lt hl1) hs₁.extBut
  refine wpAny_bind (wpAny_holding (next_tuple_end (items := items) z₁ (Nat.ne_of_lt hl1) hit₁ ht₁ (by simp) fun h₂ he₂ => ?_))
  simp only [Option.isSome_none, Bool.false_eq_true, if_false]
  exact wpAny_pure (h h₂ fun b o hb e => he₂ b o hb (hs₁.extBut b o hb (Heap.get?_push_of_some _ e)))
theorem walks_list (I ax : Addr) (hne : ax ≠ I) (hi : x1 ≠ I) (items : Array Value) :
    Walks prog w A I [I, ax, x1] [I] items.size (fun i v => items[i]? = some v) (fun i h => h.IsListIter I ax i ∧ h.IsList ax items ∧ HotAt A x1 h) where
  sub := fun b hb => by simp at hb; simp [hb]
  frame := fun _ _ _ st hk => ⟨st.1.at fun o e => hk I (by simp) o e, st.2.1.at fun o e => hk ax (by simp) o e, let ⟨z, o, vs, a, b, c⟩ := st.2.2; ⟨z, o, vs, hk x1 (by simp) o a, b, c⟩⟩
  item := fun i s Q E hlt st hQ => by
    refine wpAny_pyNext_list_item st.1 st.2.1 (x := items[i]) (by simp [hlt]) fun h' hit' hs' => ?_
    exact hQ _ h' s.toks (by simp [hlt]) ⟨hit', st.2.1.extBut hs'.extBut hne, st.2.2.but hi hs'.extBut⟩ fun b o hb e => hs'.extBut b o (fun z => hb (by simp [z])) e
  done := fun s Q E st hQ => next_list_end st.2.2 hi st.1 st.2.1 (by simp) fun h' k => hQ h' s.toks fun b o hb e => k b o (fun z => hb (by simp [z])) e
  self := fun i s Q E st hQ => wpAny_pyIter_listiter st.1 hQ
end
end HotX
namespace L2H
open PySem PySem.Spec PyProof.Rows L2 HotX
theorem HotC.see {X : Cx} {pins : List (Addr × Obj)} {σ : St} {H : Hp} {s : Shared} (c : HotC X) (I : Inv X pins σ H s) : ∃ x1, HotAt X.A x1 s.heap ∧ ∀ b, FpOk X pins H b → x1 ≠ b := by
  obtain ⟨p, ⟨hh, v1, e1, c1⟩, hp⟩ := c
  exact ⟨p.1, ⟨hh, p.2, v1, (I.pin p (List.mem_append_left _ hp)).1, e1, c1⟩, fun b f => f.2.2.2.2.2 p (List.mem_append_left _ hp)⟩
section
variable {P : Program} {w : World} {K : PySem.W.Frag} {tg : Expr}
theorem turn_listH (a it : Addr) : TurnH P w K tg (Itl K a) [it] it (fun i h => h.IsListIter it a i) where
  mem := by simp
  obj := fun i h st b hb => by
    have e : b = it := by simpa using hb
    subst e
    obtain ⟨o, e, c, d⟩ := st
    exact ⟨o, e, fun v z => by rw [d] at z; cases z⟩
  keep := fun i h h' st k => st.at fun o e => k it (by simp) o e
  item := by
    intro X hP hw hK hc i pins s σ H E I hf st hg
    subst hP hw hK
    obtain ⟨xs, x, hq, hx⟩ := hg
    obtain ⟨its, rv, p, hz⟩ := I.list hq
    obtain ⟨u, hu, ru⟩ := rv.get hx
    obtain ⟨f0, f1, f2, f3, f4, f5⟩ := hf it (by simp)
    refine wpAny_pyNext_list_item st p.isList (x := u) (by simpa using hu) fun h' st' sb => ?_
    have I1 : Inv X pins σ H { s with heap := h' } := I.turned (t' := s.toks) (fun b o hb e => (sb.2 b hb).trans e) f0 f1 f3 f4 f5
    obtain ⟨o, e, c, d⟩ := id st'
    exact ⟨u, rfl, go_of (s := { s with heap := h' }) e c d (by decide) ⟨x, H, I1, ru, ⟨rfl, fun ys hy => by rw [I.list_inj hy hq]; exact hx⟩, st', fun b hb => (hf b hb).1⟩⟩
  done := by
    intro X hP hw hK hc i pins s σ H E I hf st hg
    subst hP hw hK
    obtain ⟨xs, hq, hx⟩ := hg
    obtain ⟨its, rv, p, hz⟩ := I.list hq
    obtain ⟨x1, hot, hne⟩ := hc.see I
    have fi := hf it (by simp)
    obtain ⟨f0, f1, f2, f3, f4, f5⟩ := id fi
    have hl := rv.length
    exact next_list_end hot (hne it fi) st p.isList (by simp; omega) fun h' eb => ⟨rfl, I.turned (t' := s.toks) (fun b o hb e => eb b o hb e) f0 f1 f3 f4 f5⟩
  self := fun _ _ _ _ _ st h => wpAny_pyIter_listiter st h
theorem turn_tupleH (a it : Addr) : TurnH P w K tg (Itt K a) [it] it (fun i h => h.IsTupleIter it a i) where
  mem := by simp
  obj := fun i h st b hb => by
    have e : b = it := by simpa using hb
    subst e
    obtain ⟨o, e, c, d⟩ := st
    exact ⟨o, e, fun v z => by rw [d] at z; cases z⟩
  keep := fun i h h' st k => st.at fun o e => k it (by simp) o e
  item := by
    intro X hP hw hK hc i pins s σ H E I hf st hg
    subst hP hw hK
    obtain ⟨xs, x, hq, hx⟩ := hg
    obtain ⟨its, rv, p, hz⟩ := I.tuple hq
    obtain ⟨u, hu, ru⟩ := rv.get hx
    obtain ⟨f0, f1, f2, f3, f4, f5⟩ := hf it (by simp)
    refine wpAny_pyNext_tuple_item st (show s.heap.IsTuple a its.toArray from p) (x := u) (by simpa using hu) fun h' st' sb => ?_
    have I1 : Inv X pins σ H { s with heap := h' } := I.turned (t' := s.toks) (fun b o hb e => (sb.2 b hb).trans e) f0 f1 f3 f4 f5
    obtain ⟨o, e, c, d⟩ := id st'
    exact ⟨u, rfl, go_of (s := { s with heap := h' }) e c d (by decide) ⟨x, H, I1, ru, ⟨rfl, fun ys hy => by rw [I.tuple_inj hy hq]; exact hx⟩, st', fun b hb => (hf b hb).1⟩⟩
  done := by
    intro X hP hw hK hc i pins s σ H E I hf st hg
    subst hP hw hK
    obtain ⟨xs, hq, hx⟩ := hg
    obtain ⟨its, rv, p, hz⟩ := I.tuple hq
    obtain ⟨x1, hot, hne⟩ := hc.see I
    have fi := hf it (by simp)
    obtain ⟨f0, f1, f2, f3, f4, f5⟩ := id fi
    have hl := rv.length
    exact next_tuple_end hot (hne it fi) st (show s.heap.IsTuple a its.toArray from p) (by simp; omega) fun h' eb => ⟨rfl, I.turned (t' := s.toks) (fun b o hb e => eb b o hb e) f0 f1 f3 f4 f5⟩
  self := fun _ _ _ _ _ st h => wpAny_pyIter_tupleiter st h
theorem turn_enumH {elts : List Expr} {kk : Nat} {tpos : Pos} (a e it : Addr) :
    TurnH P w K (.Tuple elts kk tpos) (Ite K a) [e, it] e (fun i h => (∃ old, IsEnum h e it ((i : Nat) : Int) old) ∧ h.IsListIter it a i ∧ e ≠ it) where
  mem := by simp
  obj := fun i h st b hb => by
    obtain ⟨⟨old, he⟩, ⟨o, ho, hc, hd⟩, _⟩ := st
    have e' : b = e ∨ b = it := by simpa using hb
    rcases e' with z | z
    · rw [z]; exact ⟨_, he, fun v q => nomatch q⟩
    · rw [z]; exact ⟨o, ho, fun v q => by rw [hd] at q; cases q⟩
  keep := fun i h h' st k => let ⟨⟨old, he⟩, hi, hne⟩ := st; ⟨⟨old, k e (by simp) _ he⟩, hi.at fun o q => k it (by simp) o q, hne⟩
  item := by
    intro X hP hw hK hc i pins s σ H E I hf st hg
    subst hP hw hK
    obtain ⟨⟨old, he⟩, hit, hne⟩ := st
    obtain ⟨xs, x, hq, hx⟩ := hg
    obtain ⟨its, rv, p, hz⟩ := I.list hq
    obtain ⟨u, hu, ru⟩ := rv.get hx
    have hel : e < s.heap.objs.size := Heap.lt_size he
    have hil : it < s.heap.objs.size := by obtain ⟨_, q, _⟩ := hit; exact Heap.lt_size q
    refine wpAny_pyNext_enum_item he hit p.isList (x := u) (by simpa using hu) hne fun h' ho hit' hT hsz hk => ?_
    refine ⟨_, rfl, wpAny_letOwnedTupleGo_enum (s := { s with heap := h', toks := s.toks + 1 }) ho fun h'' he' sb => ?_⟩
    have hT2 : h''.get? s.heap.objs.size = some { cls := .type "tuple", data := .seq #[.int i s.toks, u] } := (sb.2 _ (Nat.ne_of_gt hel)).trans hT
    have new : ObjOk X.prog X.w (upd H s.heap.objs.size (.tup [.int (i : Nat), x])) h'' s.heap.objs.size (.tup [.int (i : Nat), x]) :=
      ⟨by show 2 ≤ sizeLine; decide, [.int i s.toks, u], .cons ⟨_, rfl⟩ (.cons ru .nil), ⟨_, hT2, rfl, _, rfl⟩⟩
    have I1 : Inv X pins σ (upd H s.heap.objs.size (.tup [.int (i : Nat), x])) { s with heap := h'', toks := s.toks + 1 } :=
      I.turnedNew (ch := [e, it]) (fun b ob hb q => (sb.2 b (fun z => hb (by simp [z]))).trans (hk b ob (fun z => hb (by simp [z])) (fun z => hb (by simp [z])) q)) hf (Nat.le_refl _) new
    refine ⟨.ref s.heap.objs.size, _, I1, rfl, ⟨_, x, rfl, I.hok.fresh (Nat.le_refl _), rfl, fun ys hy => by rw [I.list_inj hy hq]; exact hx⟩, ⟨⟨u, ?_⟩, hit'.at fun o q => (sb.2 it (Ne.symm hne)).trans q, hne⟩, fun b hb => ?_⟩
    · have e1 : ((i + 1 : Nat) : Int) = (i : Int) + 1 := by omega
      rw [e1]; exact he'
    · have hb' : b < s.heap.objs.size := by
        have e' : b = e ∨ b = it := by simpa using hb
        rcases e' with z | z
        · rw [z]; exact hel
        · rw [z]; exact hil
      rw [upd_ne (Nat.ne_of_lt hb')]
      exact (hf b hb).1
  done := by
    intro X hP hw hK hc i pins s σ H E I hf st hg
    subst hP hw hK
    obtain ⟨⟨old, he⟩, hit, hne⟩ := st
    obtain ⟨xs, hq, hx⟩ := hg
    obtain ⟨its, rv, p, hz⟩ := I.list hq
    obtain ⟨x1, hot, hn1⟩ := hc.see I
    have fi := hf it (by simp)
    obtain ⟨f0, f1, f2, f3, f4, f5⟩ := id fi
    have hl := rv.length
    have hT : s.TypeIs (.ref e) "enumerate" := ⟨_, he, rfl⟩
    unfold pyNext
    refine wpAny_bind (wpAny_attempt (wpAny_callSpecial?_slot (name := Str.ofString "__next__") hT F.slot_enumerate_next
      (wpAny_call_entry F.slot_enumerate_next hT F.entry_enumerate_next ?_ (F.args_enumerate_next_1 _))))
    show wpAny _ _ (field (.ref e) 2 >>= _) _ _ _
    refine wpAny_bind (wpAny_field he rfl (x := .ref it) rfl ?_)
    refine wpAny_bind (nextOf_list_end hot (hn1 it fi) hit p.isList (by simp; omega) fun h' x he' hx' => ?_)
    obtain ⟨o, ho, hc'⟩ := hx'
    refine wpAny_bind (wpAny_isInstance (T := "StopIteration") (b := true) ⟨o, ho, hc'⟩ isSubtype_stop ?_)
    exact wpAny_pure ⟨rfl, I.turned (t' := s.toks) (fun b o hb q => he' b o hb q) f0 f1 f3 f4 f5⟩
  self := fun A i s Q E st h => let ⟨⟨_, he⟩, _⟩ := st; wpAny_pyIter_enum he h
end
section
variable {X : Cx} {tg : Expr}
theorem PIH.weak {iter : Expr} {t t' : TI} (h : PIH X tg iter t) (hw : ∀ σ H R, t' σ H R → t σ H R) : PIH X tg iter t' := ⟨fun pins s σ H R I q => h.run pins s σ H R I (hw σ H R q)⟩
theorem pi_listH {l : Expr} {tl : TE} (hl : PE X l tl) : PIH X tg l (iList X.K tl) := by
  refine ⟨fun pins s σ H R I h => ?_⟩
  refine thn (hl.run pins s σ H _ I h) fun v s1 ⟨x, H1, I1, r1, q1⟩ => ?_
  obtain ⟨a, e, ⟨xs, hq⟩, q⟩ := q1
  subst e
  cases r1
  obtain ⟨its, rv, p, hz⟩ := I1.list hq
  refine wpAny_pyIter_list p.isList ?_
  refine ⟨s1.heap.objs.size, [s1.heap.objs.size], _, _, H1, rfl, I1.kept (t' := s1.toks) fun b o e => Heap.get?_push_of_some _ e, turn_listH a _, ⟨_, Heap.get?_push_size _ rfl, rfl, rfl⟩, fun b hb => ?_, q⟩
  have e : b = s1.heap.objs.size := by simpa using hb
  subst e
  exact I1.fpOk (Nat.le_refl _) (I1.hok.fresh (Nat.le_refl _))
theorem pi_tupH {l : Expr} {tl : TE} (hl : PE X l tl) : PIH X tg l (iTup X.K tl) := by
  refine ⟨fun pins s σ H R I h => ?_⟩
  refine thn (hl.run pins s σ H _ I h) fun v s1 ⟨x, H1, I1, r1, q1⟩ => ?_
  obtain ⟨a, e, ⟨xs, hq⟩, q⟩ := q1
  subst e
  cases r1
  obtain ⟨its, rv, p, hz⟩ := I1.tuple hq
  refine wpAny_pyIter_tuple (show s1.heap.IsTuple a its.toArray from p) ?_
  refine ⟨s1.heap.objs.size, [s1.heap.objs.size], _, _, H1, rfl, I1.kept (t' := s1.toks) fun b o e => Heap.get?_push_of_some _ e, turn_tupleH a _, ⟨_, Heap.get?_push_size _ rfl, rfl, rfl⟩, fun b hb => ?_, q⟩
  have e : b = s1.heap.objs.size := by simpa using hb
  subst e
  exact I1.fpOk (Nat.le_refl _) (I1.hok.fresh (Nat.le_refl _))
theorem pi_enumH {e : Expr} {ta : TA} {p pos tpos : Pos} {elts : List Expr} {kk : Nat} (hg : Gl X "enumerate") (hm : X.mg "enumerate" = none) (ha : PA X [e] ta) (hs : starEach [e] X.env = [(false, eval e X.env)] := by rfl) :
    PIH X (.Tuple elts kk tpos) (.Call (.Name "enumerate" p) [e] [] pos) (iEnum X.K ta) := by
  refine ⟨fun pins s σ H R I h => ?_⟩
  refine Call_ (ld_blt I hg hm boot_enumerate (PyProof.Rows.callWith_type1 (thn (ha.run pos pins s σ H _ I h) fun us s1 ⟨vs, H1, I1, r1, q1⟩ => ?_) hs rfl))
  obtain ⟨a, xs, ex, hq, q⟩ := q1
  subst ex
  cases r1 with
  | cons r rr =>
    cases rr
    cases r
    obtain ⟨its, rv, p', hz⟩ := I1.list hq
    refine call_enumerate_list p'.isList fun h' he hit hsz hk => wpAny_pyIter_enum he ?_
    have I2 : Inv X pins σ H1 { s1 with heap := h' } := I1.kept (t' := s1.toks) hk
    refine ⟨s1.heap.objs.size + 1, [s1.heap.objs.size + 1, s1.heap.objs.size], _, _, H1, rfl, I2, turn_enumH a (s1.heap.objs.size + 1) s1.heap.objs.size, ⟨⟨.none, he⟩, hit, Nat.succ_ne_self _⟩, fun b hb => ?_, q⟩
    have e' : b = s1.heap.objs.size + 1 ∨ b = s1.heap.objs.size := by simpa using hb
    have hle : s1.heap.objs.size ≤ b := by
      rcases e' with z | z
      · rw [z]; exact Nat.le_add_right _ _
      · rw [z]; exact Nat.le_refl _
    exact I1.fpOk hle (I1.hok.fresh hle)
theorem pg_tupH {es : List Expr} {k n : Nat} {t : TGs} {pos : Pos} (hc : HotC X) (h : PGs X es t)
    (hn : (assignEach es X.env).length = n := by rfl) (hst : (assignEach es X.env).findIdx? (·.1) = none := by rfl) : PG X (.Tuple es k pos) (gTup X.K n t) := by
  refine ⟨fun pins s σ H v u Q I r hw => ?_⟩
  obtain ⟨a, xs, e1, hq, hl, hw⟩ := hw
  subst e1
  cases r
  obtain ⟨its, rv, ht, hz⟩ := I.tuple hq
  obtain ⟨x1, hot, _⟩ := hc.see I
  refine assign_tup hot ht (by simp [hn, ← hl, rv.length]) hst fun h' hx => ?_
  have I1 : Inv X pins σ H { s with heap := h' } := I.kept (t' := s.toks) fun b o e => hx b o (Nat.ne_of_lt (Heap.lt_size e)) e
  exact h.run pins _ σ H xs _ Q I1 (by simpa using rv) hw
theorem cr_sumH (hc : HotC X) : CallR X (.builtin "sum") (rSum X.K) := by
  intro pins s σ H vs us Q I r h
  obtain ⟨a, ns, rfl, hs, q⟩ := h
  obtain ⟨its, rv, hl, _⟩ := I.list hs
  obtain ⟨x1, hot, _⟩ := hc.see I
  rw [Vals.ref1 r]
  have hi := rv.ints
  obtain ⟨xs, e⟩ := hi.allInts.items
  have hn : numsOf (intItems xs).toList = ns := by rw [← e]; exact hi.numsOf
  rw [nums_intItems] at hn
  have hl2 := hl.isList
  rw [e] at hl2
  have hx1 : x1 < s.heap.objs.size := by obtain ⟨o, ho⟩ := hot.old; exact Heap.lt_size ho
  have ha1 : a < s.heap.objs.size := by obtain ⟨o, ho, _⟩ := hl2; exact Heap.lt_size ho
  refine call_sum_walkG (wpAny_pyIter_list hl2 ?_)
  refine ⟨_, _, _, _, _, _, numAt xs, rfl, walks_list (A := X.A.in1) (x1 := x1) s.heap.objs.size a (Nat.ne_of_lt ha1) (Nat.ne_of_lt hx1) (intItems xs), ⟨⟨_, Heap.get?_push_size _ rfl, rfl, rfl⟩, hl2.push _, hot.keep fun b o e => Heap.get?_push_of_some _ e⟩, fun b hb => ?_, (fun _ _ => intItems_at), fun h' tk t' hk => ?_⟩
  · show b < (s.heap.push _).objs.size
    rw [Heap.size_push]
    simp only [List.mem_cons, List.not_mem_nil, or_false] at hb
    rcases hb with rfl | rfl | rfl
    · exact Nat.lt_succ_self _
    · exact Nat.lt_succ_of_lt ha1
    · exact Nat.lt_succ_of_lt hx1
  · have e2 : preSum (numAt xs) (intItems xs).size = ns.sum := by
      rw [show (intItems xs).size = xs.size from by simp [intItems], preSum_eq, List.take_of_length_le (by simp), hn]
    rw [e2]
    exact ⟨.int _, H, I.kept fun b o e => hk b o (fun z => by
      have z' : b = s.heap.objs.size := by simpa using z
      exact absurd (Heap.lt_size e) (by rw [z']; exact Nat.lt_irrefl _)) (Heap.get?_push_of_some _ e), ⟨_, rfl⟩, q⟩
end
end L2H
namespace L2H
open PySem PySem.Spec PyProof.Rows L2 HotX
section
variable {X : Cx}
/-- [.. for .. in ..] over what is at its end at once -/
def tLcE (wi : TI) : TE := fun σ H Q => wi σ H fun J H1 => ∀ D, H1 D = none → J.stop 0 (upd H1 D (.lst [])) ∧ Q (.ref D) (upd H1 D (.lst []))
theorem pe_lcE {elt tg iter : Expr} {ifs : List Expr} {scope : Scope} {own : List (Str × Nat)} {pos : Pos} {wi : TI} (hc : HotC X) (hi : PIH X tg iter wi) (ok : BlkOk X.N X.env.scope scope own)
    (hs : ∀ x, foldedSetIterable iter X.env x = pure x := by intro _; rfl) : PE X (.ListComp elt [⟨tg, iter, ifs, 0⟩] scope pos) (tLcE wi) := by
  refine ⟨fun pins s σ H Q I h => ?_⟩
  rw [eval_ListComp]
  have hfree : ∀ y ∈ scope.names, y.2 = .free → ∃ c, X.env.cells.lookup y.1 = some c := fun y hy e => by
    rcases ok.free y hy e with k | k
    · exact I.ok.has _ (.inl k)
    · exact I.ok.has _ (.inr k)
  refine wpAny_comprehension_free (use := none) rfl hs (closure_ok hfree) ok.kind (fun y hy e => by rw [ok.uniq y hy, e])
    (thn (hi.run pins s σ H _ I h) fun xv s1 hx => thn hx fun itv s2 h2 => ?_)
  obtain ⟨it, fp, tn, J, H2, e, I2, T, st2, f2, q⟩ := h2
  subst e
  refine wpAny_newObj_type (newEnv_comp ?_) (by show 0 ≤ sizeLine; decide)
  generalize hD : s2.heap.objs.size = D
  have hDn : H2 D = none := I2.hok.fresh (Nat.le_of_eq hD)
  obtain ⟨stop, qq⟩ := q D hDn
  generalize hs3 : ({ s2 with heap := s2.heap.push { cls := .type "list", data := .seq ([] : List Value).toArray } } : Shared) = s3
  have I3 : Inv X pins σ (upd H2 D (.lst [])) s3 := by
    rw [← hs3]
    refine I2.laid (t' := s2.toks) (fun b o e => Heap.get?_push_of_some _ e) (Nat.le_of_eq hD) ⟨Nat.zero_le _, [], 0, .nil, ?_⟩
    rw [← hD]
    exact Heap.get?_push_size _ rfl
  have h3 : s3.heap = s2.heap.push { cls := .type "list", data := .seq ([] : List Value).toArray } := by rw [← hs3]
  have sz : ∀ b ∈ fp, b < s2.heap.objs.size := fun b hb => by
    obtain ⟨o, e, _⟩ := T.obj _ _ st2 b hb
    exact Heap.lt_size e
  have f3 : ∀ b ∈ fp, FpOk X pins (upd H2 D (.lst [])) b ∧ b < s3.heap.objs.size := fun b hb => by
    have hlt := sz b hb
    refine ⟨⟨?_, (f2 b hb).2⟩, by rw [h3, Heap.size_push]; exact Nat.lt_succ_of_lt hlt⟩
    rw [upd_ne (by rw [← hD]; exact Nat.ne_of_lt hlt)]
    exact (f2 b hb).1
  have st3 : tn 0 s3.heap := T.keep _ _ _ st2 fun b _ o e => by rw [h3]; exact Heap.get?_push_of_some _ e
  show codeAny _ _ (.compStart (.ListComp elt [⟨tg, iter, ifs, 0⟩] scope pos) 0 (.ref it) (.ref D) (compEnvC scope (cellsFrom (s3.heap.objs.size + 1) scope.names (cloFrom X.env.cells scope.names [])) s3.heap.objs.size X.env)) (compPost (model X.prog X.w) X.A X.xe none (EP X pins σ Q) (.ref D) s3.heap.objs.size) { s3 with heap := pushCells (s3.heap.push { cls := .type "dict", data := .dict #[] }) scope.names }
  generalize hH3 : upd H2 D (.lst []) = H3 at I3 f3 stop qq
  have kp : ∀ b o, s3.heap.get? b = some o → (pushCells (s3.heap.push { cls := .type "dict", data := .dict #[] }) scope.names).get? b = some o := fun b o e => pushCells_keeps _ _ _ _ (Heap.get?_push_of_some _ e)
  have hC : (pushCells (s3.heap.push { cls := .type "dict", data := .dict #[] }) scope.names).get? s3.heap.objs.size = some { cls := .type "dict", data := .dict #[] } := pushCells_keeps _ _ _ _ (Heap.get?_push_size _ rfl)
  have fC : FpOk X pins H3 s3.heap.objs.size := I3.fpOk (Nat.le_refl _) (I3.hok.fresh (Nat.le_refl _))
  have I4 : Inv X pins σ H3 { s3 with heap := pushCells (s3.heap.push { cls := .type "dict", data := .dict #[] }) scope.names } := I3.kept (t' := s3.toks) kp
  generalize hs4 : ({ s3 with heap := pushCells (s3.heap.push { cls := .type "dict", data := .dict #[] }) scope.names } : Shared) = s4 at I4 ⊢
  have h4 : s4.heap = pushCells (s3.heap.push { cls := .type "dict", data := .dict #[] }) scope.names := by rw [← hs4]
  have st4 : tn 0 s4.heap := T.keep _ _ _ st3 fun b _ o e => by rw [h4]; exact kp b o e
  have hC4 : s4.heap.get? s3.heap.objs.size = some { cls := .type "dict", data := .dict #[] } := by rw [h4]; exact hC
  have I5 := I4.pinned (fp := [s3.heap.objs.size]) (fun b hb => by rw [List.mem_singleton.mp hb]; exact fC) (fun b hb => by
    rw [List.mem_singleton.mp hb]
    exact ⟨_, hC4, fun v z => by cases z⟩)
  have ff : ∀ b ∈ fp, FpOk X (pins ++ pinsAt [s3.heap.objs.size] s4.heap) H3 b := fun b hb => by
    obtain ⟨⟨g0, g1, g2, g3, g4, g5⟩, hlt⟩ := f3 b hb
    refine ⟨g0, g1, g2, g3, g4, fun p hp => ?_⟩
    rcases List.mem_append.mp hp with z | z
    · exact g5 p (List.mem_append_left _ z)
    · rcases List.mem_append.mp z with z | z
      · exact g5 p (List.mem_append_right _ z)
      · obtain ⟨hb', _⟩ := of_pinsAt z
        rw [List.mem_singleton.mp hb']
        exact Nat.ne_of_gt hlt
  have loop : codeAny (model X.prog X.w) X.A (.compLoop (.ListComp elt [⟨tg, iter, ifs, 0⟩] scope pos) 0 (.ref it) (.ref D) (compEnvC scope (cellsFrom (s3.heap.objs.size + 1) scope.names (cloFrom X.env.cells scope.names [])) s3.heap.objs.size X.env)) (compPost (model X.prog X.w) X.A X.xe none (EP X pins σ Q) (.ref D) s3.heap.objs.size) s4 := by
    refine compLoop_any (fun _ s' => s' = s4) ?_ 0 rfl
    rintro n s5 rfl
    have td := T.done X rfl rfl rfl hc 0 _ s5 σ H3 (fun _ _ => False) I5 ff st4 stop
    refine thnF td fun r s6 ⟨hr, I6⟩ => ?_
    subst hr
    have g := (I6.pin (s3.heap.objs.size, { cls := .type "dict", data := .dict #[] }) (List.mem_append_right _ (List.mem_append_right _ (mem_pinsAt (by simp) hC4)))).1
    have I7 : Inv X pins σ H3 s6 := I6.unpinned
    refine ⟨fun _ => none, ⟨_, _, _, g, rfl, ?_, fun _ => ?_⟩, fun h'' sb => ?_⟩
    · intro i; simp
    · rfl
    · obtain ⟨g0, g1, g2, g3, g4, g5⟩ := fC
      exact ⟨.ref D, H3, I7.turned (t' := s6.toks) (fun b o hb e => (sb.2 b hb).trans e) g0 g1 g3 g4 g5, rfl, qq⟩
  exact codeAny_compStart_list loop (T.self X.A 0 _ _ _ st4 loop)
end
end L2H
set_option Elab.async false
set_option linter.all false
set_option maxRecDepth 100000
set_option maxHeartbeats 2000000
namespace L2H
open PySem PySem.Spec PyProof.Rows L2 HotX
theorem HotC.pin {X : Cx} {pins : List (Addr × Obj)} {σ : St} {H : Hp} {s : Shared} (c : HotC X) (I : Inv X pins σ H s) : ∃ p, Hot1 X.A p ∧ PinOk X.stack H s p := by
  obtain ⟨p, hot, hp⟩ := c
  have P1 := I.pin p (List.mem_append_left _ hp)
  exact ⟨p, hot, ⟨P1.1, P1.2.1, fun hm => (List.mem_cons.mp (I.stkSub p.1 hm)).elim P1.2.2.1 P1.2.2.2.1, P1.2.2.2.2⟩⟩
/-- a promise that knows the heap's size at the entry -/
structure FnHN (P : Program) (w : World) (K : PySem.W.Frag) (mg : Str → Option Value) (base : Heap) (CX : CXT) (k : Nat) (f : Addr) (fd : FuncData) (ps : List Str) (sp : Nat → Sp) : Prop where
  run : ∀ (A : Around) (outer : List Env) (s : Shared) (H : Hp) (args : Args) (us : List Value) (vs : List V) (Q : VK) (E : XK) (p : Addr × Obj), RoomH k A → Hot1 A p → PinOk outer H s p → Env0 P w K mg base A outer s H → BindsTo s fd args (ps.zip us) → Vals vs us → sp s.heap.objs.size vs H Q E →
    codeAny (model P w) A (.call (.ref f) args) (CR CX outer P w H s Q E) s
section
variable {CX : CXT} {P : Program} {w : World} {K : PySem.W.Frag} {mg : Str → Option Value} {base : Heap} {k : Nat} {f : Addr} {name qual : Str} {st : Stmt} {fd : FuncData} {N ps : List Str}
theorem fin_ofH {A : Around} {outer : List Env} {s : Shared} {H : Hp} {Q : VK} {E : XK} {p : Addr × Obj} {scope : Scope} {cdv : Value} {s0 : Shared} {H0 : Hp} (un : Un (frs outer) [] H0 H s0.heap s.heap) (os : s.os = s0.os) {fl : Flow} {s' : Shared}
    (hs : SP (cxH CX P w K mg base N qual scope f cdv A outer s H E p) [] { nx := fun _ H' => Q .non H', rt := Q } fl s') : match fl with
      | .ret u => CE outer P w H0 s0 Q u s'
      | .next => CE outer P w H0 s0 Q .none s'
      | _ => False := by
  have fin : ∀ {σ' : St} {H' : Hp} {v : V} {u : Value}, Inv (cxH CX P w K mg base N qual scope f cdv A outer s H E p) [] σ' H' s' → RelV v u → Q v H' → CE outer P w H0 s0 Q u s' :=
    fun {σ' H' v u} J rv q => ⟨v, H', J.os.trans os, J.bare, un.trans J.base, J.hok, rv, q⟩
  cases fl with
  | ret u =>
    obtain ⟨v, σ', H', J, rv, q⟩ := hs
    exact fin J rv q
  | next =>
    obtain ⟨σ', H', J, q⟩ := hs
    exact fin (v := V.non) (u := Value.none) J rfl q
  | brk =>
    obtain ⟨_, _, _, q⟩ := hs
    exact False.elim q
  | cont =>
    obtain ⟨_, _, _, q⟩ := hs
    exact False.elim q
theorem fn_ofHN {sp : Nat → Sp} (Fn : Fun K name qual st f fd) (S : FnScope N ps (defScope st)) (len : ∀ n vs H Q E, sp n vs H Q E → vs.length = ps.length)
    (hbody : ∀ (cdv : Value) (A : Around) (outer : List Env) (s : Shared) (H : Hp) (vs : List V) (Q : VK) (E : XK) (p : Addr × Obj), Hot1 A p → RoomH k (A.deeper (envOfC qual (defScope st) s.heap.objs.size f cdv)) → sp s.heap.objs.size vs H Q E →
      ∃ t, PSs (cxH CX P w K mg base N qual (defScope st) f cdv A outer s H E p) (defBody st) t ∧ t { nx := fun _ H' => Q .non H', rt := Q } (L2.start N vs) H) :
    FnHN P w K mg base CX (k + 1) f fd ps sp := by
  obtain ⟨oc, od, kV, doc, pm, an, cdv, ct, osl, rfl, lk, hcd⟩ := Fn.ex
  refine ⟨fun A outer s H args us vs Q E p room hot pin e0 hb r q => ?_⟩
  have hlen := len _ _ _ _ _ q
  have inK : K.In s.heap := e0.mod.kin.keeps fun b o z => (e0.bs b o z).1
  have noLim : s.heap.NoLimit := e0.mod.nolimit.keeps fun b o z => (e0.bs b o z).1
  refine codeAny_call_function room.depth (inK _ _ lk) rfl S.co S.gen rfl (PySem.W.codeRec_of inK hcd) (hb _ _ _ _ ?_)
  refine wpAny_newFunctionEnv_cells S.kind (fun ⟨n, v⟩ hy => ?_) fun env he s1 x => ?_
  · rcases S.par n (List.of_mem_zip hy).1 with z | z
    · exact .inl z
    · exact .inr ⟨z, PySem.W.cellsFrom_some _ _ _ (.inl z)⟩
  subst he
  refine ⟨noLim.keeps x.toInCall.keep, codeAny_func ?_⟩
  obtain ⟨t, ht, hq⟩ := hbody cdv A outer s H vs Q E p hot (room.deeper _) q
  exact wpAny_mono (ht.run [] s1 (L2.start N vs) H _ (inv_startH S pin e0 hlen r x) hq) (fun fl s' hs => by
    have z := fin_ofH Un.refl rfl hs
    cases fl <;> first | exact z | exact z.elim) fun e s' z => z
/-- a def with a star, called with nothing -/
def FnH0 (P : Program) (w : World) (K : PySem.W.Frag) (mg : Str → Option Value) (base : Heap) (CX : CXT) (k : Nat) (f : Addr) (sp : Sp) : Prop :=
  ∀ (A : Around) (outer : List Env) (s : Shared) (H : Hp) (Q : VK) (E : XK) (p : Addr × Obj), RoomH k A → Hot1 A p → PinOk outer H s p → Env0 P w K mg base A outer s H → sp [] H Q E →
    codeAny (model P w) A (.call (.ref f) ⟨[], []⟩) (CR CX outer P w H s Q E) s
theorem fn_star0H {params : Arguments} {body : List Stmt} {scope : Scope} {dV kV doc pm cdv ct oc : Value} {an od : Option Addr} {osl : Array (Option Value)} {pv : Str} {sp : Sp} (lk : K.lookup f = some ⟨oc, od, .func (PySem.W.fnOf name qual params body scope dV kV doc pm an cdv ct), osl⟩) (hcd : PySem.W.codeIn K cdv qual = true) (S : FnScope N [pv] scope) (hCX : StX.CXUp CX)
    (hb : bindArgs (PySem.W.fnOf name qual params body scope dV kV doc pm an cdv ct) ⟨[], []⟩ = (newTuple [] >>= fun t => pure [(pv, t)]))
    (hbody : ∀ (A : Around) (outer : List Env) (s : Shared) (H : Hp) (vs : List V) (Q : VK) (E : XK) (p : Addr × Obj), Hot1 A p → RoomH k (A.deeper (envOfC qual scope s.heap.objs.size f cdv)) → sp vs H Q E →
      ∃ t, PSs (cxH CX P w K mg base N qual scope f cdv A outer s H E p) body t ∧ t { nx := fun _ H' => Q .non H', rt := Q } (L2.start N vs) H) :
    FnH0 P w K mg base CX (k + 1) f (fun vs H Q E => vs = [] ∧ ∀ q, H q = Option.none → sp [V.ref q] (upd H q (.tup [])) Q E) := by
  intro A outer s H Q E p room hot pin e0 ⟨_, hq⟩
  have hn : H s.heap.objs.size = Option.none := e0.hok.fresh (Nat.le_refl _)
  have inK : K.In s.heap := e0.mod.kin.keeps fun b o z => (e0.bs b o z).1
  have l0 : ([] : List Value).length ≤ sizeLine := Nat.zero_le _
  refine codeAny_call_function room.depth (inK _ _ lk) rfl S.co S.gen rfl (PySem.W.codeRec_of inK hcd) ?_
  rw [hb]
  refine wpAny_bind (wpAny_newTuple (wpAny_pure ?_) l0)
  have new : ObjOk P w (upd H s.heap.objs.size (.tup [])) (s.heap.push ({ cls := .type "tuple", data := .seq ([] : List Value).toArray } : Obj)) s.heap.objs.size (.tup []) := ⟨Nat.zero_le _, [], .nil, ⟨_, Heap.get?_push_size _ rfl, rfl, _, rfl⟩⟩
  have un := StX.un_laid (fs := frs outer) (s := s) (o := ({ cls := .type "tuple", data := .seq ([] : List Value).toArray } : Obj)) (u := .tup []) hn
  have e2 := StX.env0_laid e0 new
  have lim : (s.heap.push ({ cls := .type "tuple", data := .seq ([] : List Value).toArray } : Obj)).NoLimit := e0.mod.nolimit.keeps fun b o z => (e2.bs b o z).1
  have pin2 : PinOk outer (upd H s.heap.objs.size (.tup [])) { s with heap := s.heap.push ({ cls := .type "tuple", data := .seq ([] : List Value).toArray } : Obj) } p := ⟨Heap.get?_push_of_some _ pin.get, by rw [upd_ne (Nat.ne_of_lt (Heap.lt_size pin.get))]; exact pin.free, pin.nofs, pin.nocell⟩
  have hkind : ∀ y ∈ [pv].zip [Value.ref s.heap.objs.size], scope.names.lookup y.1 = some .local ∨ (scope.names.lookup y.1 = some .cell ∧ ((cellsFrom ((s.heap.push ({ cls := .type "tuple", data := .seq ([] : List Value).toArray } : Obj)).objs.size + 1) scope.names []).lookup y.1).isSome = true) := fun y hy => by
    rcases S.par y.1 (List.of_mem_zip hy).1 with q | q
    · exact .inl q
    · exact .inr ⟨q, PySem.W.cellsFrom_some _ _ _ (.inl q)⟩
  refine wpAny_newFunctionEnv_cells (s := { s with heap := s.heap.push ({ cls := .type "tuple", data := .seq ([] : List Value).toArray } : Obj) }) S.kind hkind fun env he s1 x => ?_
  subst he
  refine ⟨lim.keeps x.toInCall.keep, codeAny_func ?_⟩
  obtain ⟨t, ht, hq2⟩ := hbody A outer { s with heap := s.heap.push ({ cls := .type "tuple", data := .seq ([] : List Value).toArray } : Obj) } _ [V.ref s.heap.objs.size] Q E p hot (room.deeper _) (hq _ hn)
  refine wpAny_mono (ht.run [] s1 _ _ _ (inv_startH (us := [Value.ref s.heap.objs.size]) (vs := [V.ref s.heap.objs.size]) S pin2 e2 rfl (.cons (show L2.RelV (V.ref _) (Value.ref _) from rfl) .nil) x) hq2) (fun fl s' hs => by
    have z := fin_ofH (s0 := s) (H0 := H) (s := { s with heap := s.heap.push ({ cls := .type "tuple", data := .seq ([] : List Value).toArray } : Obj) }) un rfl hs
    cases fl <;> first | exact z | exact z.elim) fun e s' z => ?_
  have hcx := fun e'' s'' => hCX outer s H { s with heap := s.heap.push ({ cls := .type "tuple", data := .seq ([] : List Value).toArray } : Obj) } (upd H s.heap.objs.size (.tup [])) E e'' s'' un (fun b o q => Heap.get?_push_of_some _ q) rfl
  exact wpAny_mono z (fun _ s'' y => hcx e s'' y) fun e' s'' y => hcx e' s'' y
end
section
variable {X : Cx} {CX : CXT} {k : Nat} {f C p g : Addr} {fd : FuncData} {ps : List Str} {sp : Sp} {E : L2.St → XK} {x m fl nm : Str} {pos pn : Pos} {e tg : Expr} {es : List Expr} {ta : TE} {t : TA} {ds : List Value} {dvs : List V}
theorem pe_call0H (F : FnH0 X.prog X.w X.K X.mg X.base CX k f sp) (hr : RoomH k X.A) (hc : HotC X) (hg : Gl X x) (hm : X.mg x = some (.ref f)) (hk : PySem.W.keepIn X.K (.ref f) = true) (hx : ∀ σ, PassesAt CX X σ (E σ)) (hdb : (x == ("__debug__" : Str)) = false := by decide) :
    PE X (.Call (.Name x pn) [] [] pos) (fun σ H Q => sp [] H Q (E σ)) := by
  refine ⟨fun pins s σ H Q I h => ?_⟩
  refine wpAny_Call_Name_kw (ld_glob I hg hm ?_ hdb)
  refine PySem.W.callWith_K0 (first := []) I.kIn hk ?_
  obtain ⟨p, hot, pin⟩ := hc.pin I
  refine wpAny_call (codeAny_mono (F X.A X.stack s H Q (E σ) p hr hot pin I.env0 h) fun r s' hq => ?_)
  cases r with
  | error e => exact hx σ pins H s e s' I hq
  | ok fl =>
    cases fl with
    | ret u => exact I.after hq
    | next => exact False.elim hq
    | brk => exact False.elim hq
    | cont => exact False.elim hq
theorem run_makeH {pins : List (Addr × Obj)} {σ : L2.St} {H : Hp} {s : Shared} {Q : VK} {us : List Value} {vs : List V} (M : Mk X.K C f) (F : FnH X.prog X.w X.K X.mg X.base CX k f fd ps sp) (hr : RoomH (k + 1) X.A) (hc : HotC X) (hb : Binds X.K fd ps ds) (hd : Vals dvs ds)
    (hx : PassesAt CX X σ (E σ)) (I : Inv X pins σ H s) (r : Vals vs us)
    (h : ∀ x dx, H x = none → H dx = none → dx ≠ x → sp (.ref x :: (vs ++ dvs)) (upd (upd H dx (.own x)) x (.ins C dx [])) (fun v H2 => v = .non ∧ Q (.ref x) H2) (E σ)) :
    wpAny (model X.prog X.w) X.A (call (.ref C) us) (EP X pins σ Q) X.xe s := by
  have hq := h (s.heap.objs.size + 1) s.heap.objs.size (I.hok.fresh (Nat.le_succ _)) (I.hok.fresh (Nat.le_refl _)) (Nat.ne_of_lt (Nat.lt_succ_self _))
  have I2 := Inv.made (C := C) I
  have r2 : Vals (V.ref (s.heap.objs.size + 1) :: (vs ++ dvs)) (Value.ref (s.heap.objs.size + 1) :: (us ++ ds)) := .cons rfl (r.append hd)
  have hl : (Value.ref (s.heap.objs.size + 1) :: us ++ ds).length = ps.length := by
    have e := r2.length
    rw [F.len _ _ _ _ hq] at e
    exact e.symm
  obtain ⟨p, hot, pin⟩ := hc.pin I2
  have hot2 : Hot1 (X.A.under (.builtin "type.__call__" ⟨.ref C :: us, []⟩)) p := ⟨hot.1, hot.2⟩
  refine wpAny_call (make_map (f := f) I.kIn M.makes M.init (beq_iff_eq.mp M.fn) (codeAny_mono (F.run _ X.stack _ _ ⟨Value.ref (s.heap.objs.size + 1) :: us, []⟩ (Value.ref (s.heap.objs.size + 1) :: (us ++ ds)) _ _ (E σ) p (hr.make C us []) hot2 pin
    (I2.env0.make C us []) (hb _ (Value.ref (s.heap.objs.size + 1) :: us) I2.kIn hl) r2 hq) fun r s' hq' => ?_))
  cases r with
  | error e => exact hx pins _ _ e s' I2 hq'
  | ok fl =>
    cases fl with
    | ret u =>
      obtain ⟨v, H', I3, rv, ev, q3⟩ := I2.after hq'
      subst ev
      exact ⟨rv, ⟨V.ref (s.heap.objs.size + 1), H', I3, rfl, q3⟩⟩
    | next => exact False.elim hq'
    | brk => exact False.elim hq'
    | cont => exact False.elim hq'
theorem pe_makeH (M : Mk X.K C f) (F : FnH X.prog X.w X.K X.mg X.base CX k f fd ps sp) (hr : RoomH (k + 1) X.A) (hc : HotC X) (hg : Gl X x) (hm : X.mg x = some (.ref C)) (hb : Binds X.K fd ps ds) (hd : Vals dvs ds) (hx : ∀ σ, PassesAt CX X σ (E σ))
    (ha : PA X (e :: es) t) (hdb : (x == ("__debug__" : Str)) = false := by decide) (he : starEach (e :: es) X.env = (false, eval e X.env) :: starEach es X.env := by rfl) (hpl : (backTo pos (starEach es X.env)).any (·.1) = false := by rfl) :
    PE X (.Call (.Name x pn) (e :: es) [] pos) (tMakeZS C sp dvs E t) := by
  refine ⟨fun pins s σ H Q I h => ?_⟩
  refine wpAny_Call_Name_kw (ld_glob I hg hm ?_ hdb)
  refine PySem.W.callWith_K (h₀ := X.base) I.ok.mod.kin M.kp (thn (ha.run pos pins s σ H _ I h) fun us s1 ⟨vs, H1, I1, r, q⟩ => ⟨I1.kIn, ?_⟩) he hpl
  exact run_makeH M F hr hc hb hd (hx σ) I1 r q
theorem pe_propH (he : PE X e ta) (c : Cls X.K C) (hp : PropOf X.K C nm p g) (F : FnH X.prog X.w X.K X.mg X.base CX k g fd ps sp) (hr : RoomH (k + 1) X.A) (hc : HotC X) (hb : Binds X.K fd ps []) (hx : Passes CX X.nox E0)
    (hab : attributeBase e nm X.env (eval e X.env) = eval e X.env) : PE X (.Attribute e nm pos) (tProp C sp [] E0 ta) := by
  refine ⟨fun pins s σ H Q I h => ?_⟩
  refine attr_of hab (thn (he.run pins s σ H _ I h) fun u s1 ⟨x, H1, I1, rx, a, dx, fs, ex, ea, q⟩ => ?_)
  subst ex
  obtain rfl : u = Value.ref a := rx
  obtain ⟨mA, O, _, _, _, _⟩ := ins_get I1.hok ea
  obtain ⟨od, J, _⟩ := O.look
  obtain ⟨rest, hrec⟩ := hp.rec_
  have I2 := I1.tok (s1.toks + 1)
  obtain ⟨p, hot, pin⟩ := hc.pin I2
  have hl : ([Value.ref a] ++ ([] : List Value)).length = ps.length := by
    rw [← F.len _ _ _ _ q]
    rfl
  have hcl : (PySem.W.clsIn X.K C).isSome = true := by
    obtain ⟨cd, hc, _⟩ := PySem.W.any_some c.hd
    rw [hc]
    rfl
  refine PySem.W.get_bind I1.kIn J (PySem.W.plainGet_of (c.get nm)).1 (PySem.W.findObj_data hcl hp.at_ hp.get hp.tak) (PySem.W.plainGet_of (c.get nm)).2 (wpAny_call (PySem.W.prop_get (s := { s1 with toks := s1.toks + 1 }) I1.kIn hrec ?_))
  refine codeAny_mono (F.run X.A.in1 X.stack { s1 with toks := s1.toks + 1 } H1 ⟨[.ref a], []⟩ [.ref a] [.ref a] Q E0 p (roomH_in1 hr) hot pin I2.env0.in1 (hb _ [.ref a] I2.kIn hl) (.cons rfl .nil) q) fun r s' hq => ?_
  cases r with
  | error er => exact False.elim (hx pins σ H1 { s1 with toks := s1.toks + 1 } er s' (I2.wish _) hq)
  | ok fl =>
    cases fl with
    | ret u =>
      obtain ⟨v, H', I3, rv, q3⟩ := I2.after hq
      show wpAny _ _ (handedOut u) _ _ _
      rw [PySem.W.handedOut_of (handed_of rv)]
      exact wpAny_pure ⟨v, H', I3, rv, q3⟩
    | next => exact False.elim hq
    | brk => exact False.elim hq
    | cont => exact False.elim hq
theorem pi_ownItH (he : PE X e ta) (hs : PySem.W.findIn X.K (.ref C) "__iter__" = some (some (.ref f))) (hf : PySem.W.isFn X.K (.ref f) = true) (F : FnHN X.prog X.w X.K X.mg X.base CX k f fd ["self"] (spIter X.K C fl)) (hr : RoomH k X.A) (hc : HotC X) (hbd : Binds X.K fd ["self"] []) (hx : Passes CX X fun _ _ _ => False) :
    PIH X tg e (iOwnIt X.K C fl ta) := by
  refine ⟨fun pins s σ H R I h => ?_⟩
  refine thn (he.run pins s σ H _ I h) fun v s1 ⟨x, H1, I1, rx, c, dx, fs, l, zs, ex, hcc, hcl, hno, hlk, hsq, q⟩ => ?_
  subst ex
  obtain rfl : v = Value.ref c := rx
  obtain ⟨mA, O1, _⟩ := ins_get I1.hok hcc
  obtain ⟨od, J, _⟩ := O1.look
  obtain ⟨m, hF⟩ := I1.fr
  obtain ⟨p, hot, pin⟩ := hc.pin I1
  refine PySem.W.owit_iter hF I1.ok.mod.kin J hs hf ?_
  refine wpAny_call (codeAny_mono (F.run X.A X.stack s1 H1 ⟨[.ref c], []⟩ [.ref c] [.ref c] (fun v H' => ∃ it, v = .ref it ∧ H1 it = none ∧ s1.heap.objs.size ≤ it ∧ H' = upd H1 it (ItO l it 0)) (fun _ _ _ => False) p hr hot pin I1.env0 (hbd s1 [.ref c] I1.kIn rfl) (.cons rfl .nil) ⟨c, dx, fs, l, zs, rfl, hcc, hcl, hno, hlk, hsq, fun it h1 h2 => ⟨it, rfl, h1, h2, rfl⟩⟩) fun r s' hq => ?_)
  cases r with
  | error er => exact hx pins σ H1 s1 er s' I1 hq
  | ok fl' =>
    cases fl' with
    | ret u =>
      obtain ⟨v, H', I2, rv, it, rfl, hn, hle, rfl⟩ := I1.after hq
      obtain rfl : u = Value.ref it := rv
      have hi : (upd H1 it (ItO l it 0)) it = some (ItO l it 0) := upd_same
      have eo := itO_get I2 hi
      have hT : s'.TypeIs (.ref it) "list_iterator" := ⟨_, eo, rfl⟩
      have st : s'.heap.IsListIter it l 0 := ⟨_, eo, rfl, rfl⟩
      have hi' := hi
      unfold ItO at hi'
      have I3 := ItX.inv_drop I2 hi'
      have ed : ItX.dropH (upd H1 it (ItO l it 0)) it = H1 := ItX.dropH_upd hn
      have fp := ItX.inv_fp I2 hi (Nat.le_trans I1.sz hle)
      rw [ed] at I3 fp
      show PySem.W.OwitIt _ _ _ _ _ _
      unfold PySem.W.OwitIt
      refine wpAny_specialOf (name := Str.ofString "__next__") hT slot_listiter_next.lookup ?_
      refine ⟨it, [it], _, _, H1, rfl, I3, turn_listH l it, st, fun b hb => ?_, q⟩
      have e : b = it := by simpa using hb
      rw [e]
      exact fp
    | next => exact False.elim hq
    | brk => exact False.elim hq
    | cont => exact False.elim hq
end
end L2H
set_option Elab.async false
set_option linter.all false
set_option maxRecDepth 100000
namespace ZZ
open PySem PySem.Spec L2
section
variable {X : Cx} {Z : Zy} {W : WX} {tg e iter : Expr} {f : DE} {fs : List DE} {k : Val → Option (List D)} {pos : Pos}
theorem di_listH (hK : X.K = Z.K) (he : PE X e (tE Z W f)) : L2H.PIH X tg e (tI Z W (iExp f itL)) := (L2H.pi_listH he).weak fun σ H R h => tE_imp (fun x H1 ⟨A, F, ce, v, ds, so, r, e, q⟩ => by
  unfold itL at e
  have key : ∀ a vs, SqL Z.K F a vs → Reps Z.toZx F ds vs → x = .ref a → ∃ a, x = .ref a ∧ (∃ xs, SqL X.K H1 a xs) ∧ R (Itl X.K a) H1 := fun a vs hl rr ex => by
    rw [hK]
    refine ⟨a, ex, ⟨vs, so.sub.seq hl⟩, q _ fun F1 H i e1 e2 => ?_⟩
    have hl' := e2.seq (e1.seq hl)
    refine ⟨fun h => ⟨vs, hl', by rw [h, rr.length]; exact Nat.le_refl _⟩, fun d hd => ?_⟩
    obtain ⟨v, hv, rv⟩ := rr.get' hd
    refine ⟨⟨vs, v, hl', hv⟩, fun x H' ⟨eH, hx⟩ => .inl ⟨?_, eH⟩⟩
    have := hx vs hl'
    rw [hv] at this
    cases this
    exact rv.mono e1
  split at e
  · cases e
    unfold VRep Rep at r
    obtain ⟨a, vs, ex, h1, h2⟩ := r
    exact key a vs (SqL.of h1) h2 ex
  · cases e
    unfold VRep Rep at r
    obtain ⟨a, vs, ex, h1, h2⟩ := r
    exact key a vs h1 h2 ex
  · cases e) (tI1 h)
theorem di_tupH (hK : X.K = Z.K) (he : PE X e (tE Z W f)) : L2H.PIH X tg e (tI Z W (iExp f itT)) := (L2H.pi_tupH he).weak fun σ H R h => tE_imp (fun x H1 ⟨A, F, ce, v, ds, so, r, e, q⟩ => by
  unfold itT at e
  split at e
  · cases e
    unfold VRep Rep at r
    obtain ⟨a, vs, ex, hl, rr⟩ := r
    rw [hK]
    refine ⟨a, ex, ⟨vs, same_seqT so.sub hl⟩, q _ fun F1 H i e1 e2 => ?_⟩
    have hl' := same_seqT e2 (same_seqT e1 hl)
    refine ⟨fun h => ⟨vs, hl', by rw [h, rr.length]; exact Nat.le_refl _⟩, fun d hd => ?_⟩
    obtain ⟨v, hv, rv⟩ := rr.get' hd
    refine ⟨⟨vs, v, hl', hv⟩, fun x H' ⟨eH, hx⟩ => .inl ⟨?_, eH⟩⟩
    have := hx vs hl'
    rw [hv] at this
    cases this
    exact rv.mono e1
  · cases e) (tI1 h)
theorem di_enumH {e : Expr} {p tpos : Pos} {elts : List Expr} {kk : Nat} {f : DE} (hK : X.K = Z.K) (hm : X.mg "enumerate" = none) (ha : PA X [e] (tArgs Z W [f])) (hg : Gl X "enumerate" := by rfl) (hs : starEach [e] X.env = [(false, eval e X.env)] := by rfl) :
    L2H.PIH X (.Tuple elts kk tpos) (.Call (.Name "enumerate" p) [e] [] pos) (tI Z W (iArgs [f] kEnum)) :=
  (L2H.pi_enumH hg hm ha hs).weak fun σ H R h => tArgs_imp (fun xs H1 ⟨A, F, ce, vs, ds, so, r, hk, q⟩ => by
    rw [hK]
    unfold kEnum at hk
    split at hk
    · cases hk
      replace r := vreps1 r
      obtain ⟨x, rfl, r⟩ := r
      obtain ⟨a, ws, rfl, h1, h2⟩ := wlst_rd so r rfl
      exact ⟨a, ws, rfl, so.sub.seq h1, q _ (jok_e h1 h2)⟩
    · cases hk
      replace r := vreps1 r
      obtain ⟨x, rfl, r⟩ := r
      obtain ⟨a, ws, rfl, h1, h2⟩ := wlst_rd so r rfl
      exact ⟨a, ws, rfl, so.sub.seq h1, q _ (jok_e h1 h2)⟩
    · cases hk) (tIN h)
theorem di_range1H {a : Expr} {p : Pos} {f : DE} (hm : X.mg "range" = none) (ha : PA X [a] (tArgs Z W [f])) (hg : Gl X "range" := by rfl) (hs : starEach [a] X.env = [(false, eval a X.env)] := by rfl) : L2H.PIH X tg (.Call (.Name "range" p) [a] [] pos) (tI Z W (iArgs [f] kRng1)) :=
  (L2H.pi_range1H hg hm ha hs).weak fun σ H R h => tArgs_imp (fun xs H1 ⟨A, F, ce, vs, ds, so, r, hk, q⟩ => by
    unfold kRng1 at hk
    split at hk
    · split at hk
      · rename_i j hj
        cases hk
        replace r := vreps1 r
        obtain ⟨x, rfl, r⟩ := r
        rw [rep_int r]
        exact ⟨j, rfl, (isz_ok hj).1, (isz_ok hj).2, q _ (jok_r 0 _)⟩
      · cases hk
    · cases hk) (tIN h)
end
section
variable {X : Cx} {Z : Zy} {W : WX} {e : Expr} {es : List Expr} {g : GD} {gs : List GD} {ix ix' : List Nat} {pos : Pos}
theorem dg_tupH {k : Nat} (hK : X.K = Z.K) (hc : L2H.HotC X) (h : PGs X es (tGs Z ix gs)) (hl : (assignEach es X.env).length = gs.length := by rfl) (hst : (assignEach es X.env).findIdx? (·.1) = none := by rfl) : PG X (.Tuple es k pos) (tG Z ix (gT gs)) := pg_weak (L2H.pg_tupH hc h hl hst) fun v σ H Q ⟨A, F, sl, ce, d, so, hs, r, sl', e, q⟩ => by
  unfold gT at e
  split at e
  · rename_i ds
    unfold Rep at r
    obtain ⟨a, vs, rfl, h1, h2⟩ := r
    exact ⟨a, vs, rfl, by rw [hK]; exact same_seqT so.sub h1, by rw [← h2.length, gL_len e], A, F, sl, ce, ds, so, hs, h2, sl', e, q⟩
  · cases e
end
section
variable {X : Cx} {Z : Zy} {W : WX} {tg iter : Expr} {fi : DI} {ix : List Nat} {g : GD} {fb : DSt} {body : List Stmt} {pos : Pos}
theorem ds_forH (hp : PassesOwn (model X.prog X.w) X.A X.env X.xe) (hi : L2H.PIH X tg iter (tI Z W fi)) (hg : PG X tg (tG Z ix g)) (hb : PSs X body (tS Z W fb)) (hc : L2H.HotC X)
    (hs : ∀ x, foldedSetIterable iter X.env x = pure x := by intro _; rfl) : PS X (.For tg iter body [] pos) (tS Z W (sFor fi g fb)) := by
  refine (L2H.ps_forH hp hc hi hg hb hs).weak fun D σ H ⟨A, F, sl, ce, so, hs, p⟩ => ⟨A, F, sl, ce, so, hs, ?_⟩
  unfold sFor at p
  cases e : fi sl ce with
  | stuck => rw [e] at p; exact p.elim
  | exc c ds ce1 =>
    rw [e] at p
    exact fun A1 F1 H1 dx p1 e1 s1 x1 => p A1 F1 H1 σ dx p1 e1 s1 (hs.mono p1 e1) x1
  | ok ds ce1 =>
    rw [e] at p
    intro A1 F1 H1 J p1 e1 so1 hJ
    refine ⟨fun i m σ H => m = ds.length - i ∧ i ≤ ds.length ∧ ∃ A F sl ce, Same F1 F ∧ SO Z.toZx A F ce H ∧ SL Z A F sl σ ∧ PostS Z A F W D (forD g fb (ds.drop i) sl ce),
      ⟨ds.length, rfl, Nat.zero_le _, A1, F1, sl, ce1, Same.refl _, so1, hs.mono p1 e1, p.mono p1 e1⟩, ?_⟩
    rintro i m σ H ⟨rfl, hi, A, F, sl, ce, eF, so, hs, p⟩
    obtain ⟨j1, j2⟩ := hJ F H i eF so.sub
    by_cases hlt : i < ds.length
    · have hd : ds[i]? = some ds[i] := List.getElem?_eq_getElem hlt
      obtain ⟨go, yl⟩ := j2 _ hd
      refine .inr ⟨go, fun σ H => i + 1 ≤ ds.length ∧ ∃ A F sl ce, Same F1 F ∧ SO Z.toZx A F ce H ∧ SL Z A F sl σ ∧ PostS Z A F W D (forD g fb (ds.drop (i + 1)) sl ce), fun σ' H' q => ⟨ds.length - (i + 1), by omega, rfl, q⟩, fun x H' hy => ?_⟩
      rw [List.drop_eq_getElem_cons hlt] at p
      have fin : ∀ F2 H2, Same F F2 → SO Z.toZx A F2 ce H2 → Rep Z.toZx F2 ds[i] x → tG Z ix g x σ H2 fun σ2 H3 => tS Z W fb { D with nx := fun σ H => i + 1 ≤ ds.length ∧ ∃ A F sl ce, Same F1 F ∧ SO Z.toZx A F ce H ∧ SL Z A F sl σ ∧ PostS Z A F W D (forD g fb (ds.drop (i + 1)) sl ce), ct := fun σ H => i + 1 ≤ ds.length ∧ ∃ A F sl ce, Same F1 F ∧ SO Z.toZx A F ce H ∧ SL Z A F sl σ ∧ PostS Z A F W D (forD g fb (ds.drop (i + 1)) sl ce), bk := D.nx } σ2 H3 := by
        intro F2 H2 e2 so2 r2
        refine ⟨A, F2, sl, ce, ds[i], so2, hs.mono (List.prefix_refl _) e2, r2, ?_⟩
        unfold forD at p
        cases eg : g ds[i] sl with
        | none => rw [eg] at p; exact p.elim
        | some sl1 =>
          rw [eg] at p
          refine ⟨sl1, rfl, fun σ' hs' _ => ⟨A, F2, sl1, ce, so2, hs', ?_⟩⟩
          simp only at p
          cases eb : fb sl1 ce with
          | nx sl2 ce2 => rw [eb] at p; exact fun A3 F3 H3 σ3 p3 e3 so3 hs3 => ⟨hlt, A3, F3, sl2, ce2, (eF.trans e2).trans e3, so3, hs3, p.mono p3 (e2.trans e3)⟩
          | ct sl2 ce2 => rw [eb] at p; exact fun A3 F3 H3 σ3 p3 e3 so3 hs3 => ⟨hlt, A3, F3, sl2, ce2, (eF.trans e2).trans e3, so3, hs3, p.mono p3 (e2.trans e3)⟩
          | bk sl2 ce2 => rw [eb] at p; exact fun A3 F3 H3 σ3 p3 e3 so3 hs3 => p A3 F3 H3 σ3 p3 (e2.trans e3) so3 hs3
          | rt v ce2 => rw [eb] at p; exact fun A3 F3 H3 x3 p3 e3 so3 hs3 => p A3 F3 H3 x3 p3 (e2.trans e3) so3 hs3
          | exc c es sl2 ce2 => rw [eb] at p; exact fun A3 F3 H3 σ3 dx p3 e3 so3 hs3 => p A3 F3 H3 σ3 dx p3 (e2.trans e3) so3 hs3
          | stuck => rw [eb] at p; exact p.elim
      rcases yl x H' hy with ⟨rx, rfl⟩ | ⟨q, o, hq, rfl, rx⟩
      · exact fin F _ (Same.refl _) so rx
      · exact fin _ _ (same_up (so.fnone hq)) (so.new hq) rx
    · have ei : i = ds.length := by omega
      refine .inl ⟨j1 ei, ?_⟩
      rw [ei, List.drop_length] at p
      exact nxS so hs p
/-- a comprehension over what is empty -/
def eLcE (fi : DI) : DE := fun sl ce => match fi sl ce with
  | .ok [] ce' => .ok (.im (.lst [])) ce'
  | .ok _ _ => .stuck
  | .exc c ds ce' => .exc c ds ce'
  | .stuck => .stuck
theorem de_lcE {elt : Expr} {ifs : List Expr} {scope : Scope} {own : List (Str × Nat)} (hc : L2H.HotC X) (hi : L2H.PIH X tg iter (tI Z W fi)) (ok : BlkOk X.N X.env.scope scope own)
    (hs : ∀ x, foldedSetIterable iter X.env x = pure x := by intro _; rfl) : PE X (.ListComp elt [⟨tg, iter, ifs, 0⟩] scope pos) (tE Z W (eLcE fi)) :=
  (L2H.pe_lcE hc hi ok hs).weak fun σ H Q ⟨A, F, sl, ce, so, hs, p⟩ => by
    refine ⟨A, F, sl, ce, so, hs, ?_⟩
    unfold eLcE at p
    cases e : fi sl ce with
    | stuck => rw [e] at p; exact p.elim
    | exc c ds ce1 => rw [e] at p; exact p
    | ok ds ce1 =>
      rw [e] at p
      cases ds with
      | cons d ds => exact p.elim
      | nil =>
        intro A' F' H' J pA eF so' hJ D hD
        have up := same_up (o := .lst []) (so'.fnone hD)
        exact ⟨(hJ F' _ 0 (Same.refl _) (so'.sub.trans (same_up hD))).1 rfl, p A' _ _ (.ref D) pA (eF.trans up) (so'.new hD) (by unfold VRep Rep; exact ⟨D, [], rfl, upd_same, reps_nil⟩)⟩
end
section
variable {X : Cx} {Z : Zy} {W : WX} {k n i : Nat} {fa pa : Addr} {ps : List Str} {fh : DF} {x fl m nm : Str} {p pos pn apos : Pos} {a b e o tg : Expr} {es : List Expr} {f g : DE} {fs : List DE} {c : Nat}
structure ItOkH (P : Program) (w : World) (K : PySem.W.Frag) (mg : Str → Option Value) (base : Heap) (C f : Addr) (fl : Str) : Prop where
  hs : PySem.W.findIn K (.ref C) "__iter__" = some (some (.ref f))
  fn : PySem.W.isFn K (.ref f) = true
  ex : ∃ fd, L2H.FnHN P w K mg base (L2N.CX P w) 1 f fd ["self"] (spIter K C fl) ∧ Binds K fd ["self"] []
theorem itNH {P : Program} {w : World} {K : PySem.W.Frag} {mg : Str → Option Value} {base : Heap} {name qual : Str} {st : Stmt} {f C : Addr} {fd : FuncData} {fl : Str} {p1 p2 p3 p4 p5 : Pos} (Fn : Fun K name qual st f fd) (S : FnScope ["self"] ["self"] (defScope st)) (hm : mg "iter" = none)
    (hb : defBody st = [.Return (some (.Call (.Name "iter" p1) [.Attribute (.Name "self" p2) fl p3] [] p4)) p5])
    (hg : (defScope st).names.lookup ("iter" : Str) = some .globalImplicit) (hv : (defScope st).names.lookup ("self" : Str) = some .local) : L2H.FnHN P w K mg base (L2N.CX P w) 1 f fd ["self"] (spIter K C fl) := by
  refine L2H.fn_ofHN Fn S (fun n vs H Q E ⟨a, dx, fs, l, zs, e, _⟩ => by rw [e]; rfl) fun cdv A outer s H vs Q E p hot hr h => ?_
  rw [hb]
  refine ⟨_, pss_one (ps_ret (pe_callB (ItX.call_iterN) (show Gl _ "iter" from hg) hm (by decide +kernel) (pa_cons (pe_fld (pe_var (i := 0) rfl (.inl hv)) rfl) pa_nil rfl))), ?_⟩
  obtain ⟨a, dx, fs, l, zs, rfl, ha, hc, hn, hl, hq, k⟩ := h
  exact ⟨_, rfl, a, C, dx, fs, .ref l, rfl, ha, hc, hn, hl, l, zs, rfl, hq, k⟩
theorem di_ownH (hK : X.K = Z.K) (he : PE X e (tE Z W f)) (kc : ClsOk X.K Z.toZx c) (na : NoAttr X.K (Z.cl c) fl) (hi : (Z.fl c)[i]? = some fl) (G : ItOkH X.prog X.w X.K X.mg X.base (Z.cl c) fa fl) (hr : L2H.RoomH 1 X.A) (hh : L2H.HotC X) : L2H.PIH X tg e (tI Z W (iExp f (itO c i))) := by
  obtain ⟨fd, F, bd⟩ := G.ex
  refine (L2H.pi_ownItH he G.hs G.fn F hr hh bd pass_none).weak fun σ H R h => tE_imp (fun x H1 ⟨A, F, ce, v, ds, so, r, e, q⟩ => ?_) (tI1 h)
  unfold itO at e
  split at e
  · rename_i d xs
    split at e
    · rename_i hd
      subst hd
      split at e
      · rename_i es hx
        cases e
        unfold VRep Rep at r
        obtain ⟨a, dx, fs, rfl, ha, hf, hr2⟩ := r
        obtain ⟨v, hv, rv⟩ := lookup_ix (n := (Z.fl d).length) kc.nd (by rw [List.take_length]; exact hf) hr2 hi hx
        unfold Rep at rv
        obtain ⟨l, vs, rfl, hl, rr⟩ := rv
        exact ⟨a, dx, fs, l, vs, rfl, so.sub _ _ ha, kc.cls, na, hv, SqL.of (so.sub _ _ hl), q _ (jok_l2 (SqL.of hl) rr)⟩
      · cases e
    · cases e
  · cases e
theorem de_propH (he : PE X e (tE Z W f)) (hc : ClsOk X.K Z.toZx c) (hp : PropOf X.K (Z.cl c) nm pa fa) (G : DOkH X.prog X.w X.K X.mg X.base k fa ps (spD Z.toZx fh 1)) (hr : L2H.RoomH (k + 1) X.A) (hh : L2H.HotC X)
    (hab : attributeBase e nm X.env (eval e X.env) = eval e X.env := by rfl) : PE X (.Attribute e nm pos) (tE Z W (eUn (kProp c fh) f)) := by
  obtain ⟨fd, F, hb⟩ := G.ex
  exact (L2H.pe_propH he hc.cls hp F hr hh hb passLN hab).weak fun σ H Q q => tE_imp (fun x H1 ⟨A, F, sl, ce, v, so, hs, r, p⟩ => by
    unfold kProp at p
    by_cases hi : isC c ce v = true
    · rw [if_pos hi] at p
      obtain ⟨a, dx, fs', n', rfl, h1, h2⟩ := isC_rd so r hi
      refine ⟨a, dx, fs', rfl, h1, A, F, ce, [v], so, VReps.nohd (by simp [isC_plain hi]) ⟨_, _, rfl, r, rfl⟩, rfl, ?_⟩
      cases e : fh [v] ce with
      | ok u ce' => rw [e] at p; exact fun A' F' H' x pA eF so' r' => p A' F' H' x pA eF so' (vrep_z rfl r')
      | exc c ds ce' => rw [e] at p; exact p.elim
      | stuck => rw [e] at p; exact p.elim
    · rw [if_neg hi] at p
      exact p.elim) (tE1 q)
theorem de_methHD {pl : Sem Bool} (he : PE X o (tE Z W f)) (hc : ClsOk X.K Z.toZx c) (hmt : Meth X.K (Z.cl c) m fa) (hno : m ∉ Z.fl c) (G : DOkH X.prog X.w X.K X.mg X.base k fa ps (spD Z.toZx fh (n + 1))) (hr : L2H.RoomH k X.A) (hh : L2H.HotC X) (tw : TW X W) (ha : PA X (e :: es) (tArgs Z W fs))
    (hl : fs.length = n := by rfl) (hst : starEach (e :: es) X.env = (false, eval e X.env) :: starEach es X.env := by rfl) (hpl : (backTo pos (starEach es X.env)).any (·.1) = false := by rfl)
    (ht : eval (.Call (.Attribute o m apos) (e :: es) [] pos) X.env = (do
      let ov ← eval o X.env
      standAt apos.atName
      let (f, first) ← holding [ov] (getMethod ov m pl)
      callWith pos f first (backTo pos (starEach (e :: es) X.env)) (backToKw pos (keywordEach [] X.env))) := by rfl) :
    PE X (.Call (.Attribute o m apos) (e :: es) [] pos) (tE Z W (eMth (isC c) (kMeth fh) f fs)) := by
  obtain ⟨fd, F, hb⟩ := G.ex
  exact (L2H.pe_methH he hc.cls hmt F hr hh hb tw ha hst hpl ht).weak fun σ H Q q => tE_imp (fun x H1 ⟨A, F, sl, ce, v, so, hs, r, p⟩ => by
    by_cases hi : isC c ce v = true
    · rw [if_pos hi] at p
      obtain ⟨a, dx, fs', n', rfl, h1, h2⟩ := isC_rd so r hi
      refine ⟨a, dx, fs', rfl, h1, take_lookup h2 hno, tArgs_imp (fun xs H2 ⟨A2, F2, ce2, vs, p2, e2, s2, r2, l2, q2⟩ => ?_) (tArgs_ok so hs p)⟩
      unfold kMeth at q2
      by_cases hp : (v :: vs).all plainV = true
      · rw [if_pos hp] at q2
        exact spD_call (sl := sl) (vs := v :: vs) s2 ⟨_, _, rfl, r.mono p2 e2, r2⟩ (by simp [l2, hl]) hp q2
      · rw [if_neg hp] at q2
        exact q2.elim
    · rw [if_neg hi] at p
      exact p.elim) (tE1 q)
/-- a def with a star, called with nothing -/
structure DOkH0 (P : Program) (w : World) (K : PySem.W.Frag) (mg : Str → Option Value) (base : Heap) (k : Nat) (f : Addr) (sp : Sp) : Prop where
  F : L2H.FnH0 P w K mg base (L2N.CX P w) k f sp
  kp : PySem.W.keepIn K (.ref f) = true
def spH0 (Z : Zx) (fh : DF) : Sp := fun vs H Q E => vs = [] ∧ ∀ q, H q = none → spD Z fh 1 [V.ref q] (upd H q (.tup [])) Q E
def kCallH0 (fh : DF) : DE := fun _ ce => fh [.im (.tup [])] ce
theorem de_call0H (G : DOkH0 X.prog X.w X.K X.mg X.base k fa (spH0 Z.toZx fh)) (hr : L2H.RoomH k X.A) (hh : L2H.HotC X) (hm : X.mg x = some (.ref fa)) (tw : TW X W) (hg : Gl X x := by rfl) (hdb : (x == ("__debug__" : Str)) = false := by decide) :
    PE X (.Call (.Name x p) [] [] pos) (tE Z W (kCallH0 fh)) :=
  (L2H.pe_call0H G.F hr hh hg hm G.kp tw hdb).weak fun σ H Q ⟨A, F, sl, ce, so, hs, q⟩ => ⟨rfl, fun b hb => by
    have up := same_up (o := .tup []) (so.fnone hb)
    refine spD_call (sl := sl) (σ := σ) (vs := [.im (.tup [])]) (so.new hb) ⟨.ref b, [], rfl, ?_, by unfold VReps; rfl⟩ rfl rfl (PostE.mono (List.prefix_refl _) up q)
    unfold VRep Rep
    exact ⟨b, [], rfl, SqT.of upd_same, reps_nil⟩⟩
/-- .. made with its one default left out -/
structure DOkNH (P : Program) (w : World) (K : PySem.W.Frag) (mg : Str → Option Value) (base : Heap) (k : Nat) (f : Addr) (ps : List Str) (sp : Sp) : Prop where
  ex : ∃ fd, L2H.FnH P w K mg base (L2N.CX P w) k f fd ps sp ∧ Binds K fd ps [.none]
theorem de_makeNH {nf : Nat} (M : Mk X.K (Z.cl c) fa) (G : DOkNH X.prog X.w X.K X.mg X.base k fa ps (spD Z.toZx fh (n + 2))) (hr : L2H.RoomH (k + 1) X.A) (hh : L2H.HotC X) (hm : X.mg x = some (.ref (Z.cl c))) (tw : TW X W) (ha : PA X (e :: es) (tArgs Z W fs)) (hfl : (Z.fl c).length = nf)
    (hg : Gl X x := by rfl) (hl : fs.length = n := by rfl) (hdb : (x == ("__debug__" : Str)) = false := by decide) (he : starEach (e :: es) X.env = (false, eval e X.env) :: starEach es X.env := by rfl) (hpl : (backTo pos (starEach es X.env)).any (·.1) = false := by rfl) :
    PE X (.Call (.Name x p) (e :: es) [] pos) (tE Z W (eArgs fs (kMakeN c nf fh))) :=
  (L2H.pe_makeH (dvs := [.non]) (ds := [Value.none]) M G.ex.choose_spec.1 hr hh hg hm G.ex.choose_spec.2 (.cons (show L2.RelV V.non Value.none from rfl) .nil) tw ha hdb he hpl).weak fun σ H Q h => tArgs_imp (fun xs H1 ⟨A, F, sl, ce, vs, so, hs, r, l, q⟩ => by
    intro a dx ha' hdx hne
    unfold kMakeN kMake at q
    have r0 := r
    have r : VReps Z A F (vs ++ [.im .non]) (xs ++ [V.non]) := r0.append ⟨V.non, [], rfl, by unfold VRep Rep; rfl, by unfold VReps; rfl⟩
    have l0 := l
    have l : (vs ++ [Val.im D.non]).length = n + 1 := by rw [List.length_append, l0, hl]; rfl
    generalize vs ++ [Val.im D.non] = vs at q r l
    by_cases hp : vs.all plainV = true
    · rw [if_pos hp] at q
      -- the new instance's dict, then the instance as a cell
      have so1 := so.new (o := .own a) hdx
      have fa1 : (upd F dx (.own a)) a = none := by rw [upd_ne (Ne.symm hne)]; exact so.fnone ha'
      have ha1 : (upd H1 dx (.own a)) a = none := by rw [upd_ne (Ne.symm hne)]; exact ha'
      have so2 := so1.newCell (o := .ins (Z.cl c) dx []) (c := .ins c []) ha1 ⟨so1.fnone ha1, dx, [], upd_same, rfl, reps_nil⟩
      have up1 : Same F (upd F dx (.own a)) := same_up (so.fnone hdx)
      refine ⟨A ++ [a], upd F dx (.own a), ce ++ [.ins c []], .cell ce.length :: vs, so2, ⟨.ref a, xs ++ [V.non], rfl, ⟨a, by rw [← so.len]; simp, rfl⟩, (r.mono (List.prefix_append _ _) up1).nohd hp⟩, by simp [l], ?_⟩
      cases e : fh (.cell ce.length :: vs) (ce ++ [.ins c []]) with
      | stuck => rw [e] at q; exact q.elim
      | exc d ds ce' =>
        rw [e] at q
        exact fun A' F' H' dx' pA eF so' xo => q A F' H' dx' (List.prefix_refl _) (up1.trans eF) (so'.cut ((List.prefix_append _ _).trans pA) so.len) xo
      | ok v ce' =>
        rw [e] at q
        cases v with
        | cell n => exact q.elim
        | exn c ds => exact q.elim
        | im d => cases d with
          | non =>
            intro A' F' H' y pA eF so' ry
            refine ⟨rep_non (Z := Z.toZx.z) ry, ?_⟩
            have hAa : A'[ce.length]? = some a := pre_get pA (by rw [← so.len]; simp)
            dsimp only at q
            split at q
            · rename_i d ds hds
              by_cases hdc : d = c ∧ ds.length = nf
              · rw [if_pos hdc] at q
                obtain ⟨rfl, hll⟩ := hdc
                obtain ⟨hF, dx', fs', hH, hfs, rr⟩ := so'.ok _ _ _ hAa hds
                have up := same_up (o := .ins (Z.cl d) dx' fs') hF
                have s2 := (so'.freeze hAa hF hH).cut (A := A) ((List.prefix_append _ _).trans pA) so.len
                have e3 : (ce'.set ce.length .dead).take ce.length = ce'.take ce.length := by
                  refine List.ext_getElem? fun j => ?_
                  by_cases hj : j < ce.length
                  · rw [List.getElem?_take_of_lt hj, List.getElem?_take_of_lt hj, List.getElem?_set_ne (by omega)]
                  · rw [List.getElem?_eq_none (by simp; omega), List.getElem?_eq_none (by simp; omega)]
                rw [e3] at s2
                refine q A _ H' (.ref a) (List.prefix_refl _) ((up1.trans eF).trans up) s2 ?_
                unfold VRep Rep
                exact ⟨a, dx', fs', rfl, upd_same, by rw [hfs, hll, ← hfl, List.take_length], rr.mono up⟩
              · rw [if_neg hdc] at q
                exact q.elim
            · exact q.elim
          | _ => exact q.elim
    · rw [if_neg hp] at q
      exact q.elim) (tN h)
end
section
variable {P : Program} {w : World} {K : PySem.W.Frag} {mg : Str → Option Value} {base : Heap}
/-- a def that raises nothing -/
def noX (f : DF) : DF := fun ds ce => match f ds ce with
  | .ok v ce' => .ok v ce'
  | _ => .stuck
theorem body_noX {Z : Zx} {N : List Str} {vs : List V} {H : Hp} {Q : VK} {E : XK} {n nsl : Nat} {body : DSt} (hN : N.length = nsl) (h : spD Z (noX (mkD nsl body)) n vs H Q E) : tS Z.z WF body { nx := fun _ H' => Q .non H', rt := Q } (L2.start N vs) H := by
  subst hN
  obtain ⟨A0, F0, ce, ds, so, r, l, p⟩ := h
  refine ⟨A0, F0, _, ce, so, vreps_start r, ?_⟩
  unfold noX mkD at p
  have hn := so.len
  cases e : body (ds.map some ++ List.replicate (N.length - ds.length) none) ce with
  | nx sl ce' =>
    rw [e] at p
    exact fun A' F' H' σ' pA eF so' hs' => fin_ok hn pA eF so' (show VRep Z.z A' F' (.im .non) .non by unfold VRep Rep; rfl) (by dsimp only at p ⊢; split at p <;> first | assumption | exact p.elim)
  | rt v ce' =>
    rw [e] at p
    exact fun A' F' H' x pA eF so' r' => fin_ok hn pA eF so' r' (by dsimp only at p ⊢; split at p <;> rename_i e2 <;> first | (rw [e2]; exact p) | exact p.elim)
  | exc c es sl ce' => rw [e] at p; exact p.elim
  | bk sl ce' => rw [e] at p; exact p.elim
  | ct sl ce' => rw [e] at p; exact p.elim
  | stuck => rw [e] at p; exact p.elim
theorem spD_len {Z : Zx} {f : DF} {n : Nat} {vs : List V} {H : Hp} {Q : VK} {E : XK} (h : spD Z f n vs H Q E) : vs.length = n := by
  obtain ⟨A, F, ce, ds, so, r, l, p⟩ := h
  rw [← r.length]
  exact l
theorem fnHn {Z : Zx} {x qual : Str} {st : Stmt} {f : Addr} {fd : FuncData} {N ps : List Str} {k nsl n : Nat} {body : DSt} (Fn : Fun K x qual st f fd) (S : FnScope N ps (defScope st)) (hN : N.length = nsl) (hn : ps.length = n)
    (hbody : ∀ (cdv : Value) (A : Around) (outer : List Env) (s : Shared) (H : Hp) (E : XK) (p : Addr × Obj), L2H.Hot1 A p → L2H.RoomH k (A.deeper (PyProof.Rows.envOfC qual (defScope st) s.heap.objs.size f cdv)) →
      PSs (L2H.cxH (L2N.CX P w) P w K mg base N qual (defScope st) f cdv A outer s H E p) (defBody st) (tS Z.z WF body)) : L2H.FnH P w K mg base (L2N.CX P w) (k + 1) f fd ps (spD Z (noX (mkD nsl body)) n) := by
  subst hn
  obtain ⟨oc, od, kV, doc, pm, an, cdv, ct, osl, rfl, lk, hcd⟩ := Fn.ex
  exact L2H.fn_ofH lk hcd S (fun vs H Q E h => spD_len h) fun A outer s H vs Q E p hh hr h => ⟨_, hbody cdv A outer s H E p hh hr, body_noX hN h⟩
theorem fnDHn {Z : Zx} {x qual : Str} {st : Stmt} {f : Addr} {fd : FuncData} {N ps : List Str} {k nsl n : Nat} {body : DSt} {dvs : List V} {kws : List (Str × V)} (Fn : FunD K x qual (defArgs st) (defBody st) (defScope st) dvs kws f fd) (S : FnScope N ps (defScope st)) (hN : N.length = nsl) (hn : ps.length = n)
    (hbody : ∀ (cdv : Value) (A : Around) (outer : List Env) (s : Shared) (H : Hp) (E : XK) (p : Addr × Obj), L2H.Hot1 A p → L2H.RoomH k (A.deeper (PyProof.Rows.envOfC qual (defScope st) s.heap.objs.size f cdv)) →
      PSs (L2H.cxH (L2N.CX P w) P w K mg base N qual (defScope st) f cdv A outer s H E p) (defBody st) (tS Z.z WF body)) : L2H.FnH P w K mg base (L2N.CX P w) (k + 1) f fd ps (spD Z (noX (mkD nsl body)) n) := by
  subst hn
  obtain ⟨oc, od, dV, kV, doc, pm, an, cdv, ct, osl, rfl, lk, hcd, _, _⟩ := Fn.ex
  exact L2H.fn_ofH lk hcd S (fun vs H Q E h => spD_len h) fun A outer s H vs Q E p hh hr h => ⟨_, hbody cdv A outer s H E p hh hr, body_noX hN h⟩
theorem fnSHn {Z : Zx} {x qual pv : Str} {st : Stmt} {f : Addr} {N : List Str} {k nsl : Nat} {body : DSt} (Fn : FunS K x qual st [] pv f) (S : FnScope N [pv] (defScope st)) (hN : N.length = nsl)
    (hbody : ∀ (cdv : Value) (A : Around) (outer : List Env) (s : Shared) (H : Hp) (E : XK) (p : Addr × Obj), L2H.Hot1 A p → L2H.RoomH k (A.deeper (PyProof.Rows.envOfC qual (defScope st) s.heap.objs.size f cdv)) →
      PSs (L2H.cxH (L2N.CX P w) P w K mg base N qual (defScope st) f cdv A outer s H E p) (defBody st) (tS Z.z WF body)) : DOkH0 P w K mg base (k + 1) f (spH0 Z (noX (mkD nsl body))) := by
  obtain ⟨oc, od, dV, kV, doc, pm, an, cdv, ct, osl, lk, hcd, hb⟩ := Fn.ex
  exact ⟨L2H.fn_star0H (sp := spD Z (noX (mkD nsl body)) 1) lk hcd S cxUpN (hb [] [] rfl) fun A outer s H vs Q E p hh hr h => ⟨_, hbody cdv A outer s H E p hh hr, body_noX hN h⟩, Fn.kp⟩
theorem hotC_def {X : Cx} {p : Addr × Obj} (hh : L2H.Hot1 X.A p) (hp : p ∈ X.pn) : L2H.HotC X := ⟨p, hh, hp⟩
end
end ZZ
set_option Elab.async false
set_option linter.all false
set_option maxRecDepth 100000
namespace ZZ
open PySem PySem.Spec L2
def st (l : List Nat) : Str := ⟨l.toArray⟩
theorem st_len (l : List Nat) : (st l).length = l.length := by simp [st, Str.length]
theorem st_app (a b : List Nat) : st a ++ st b = st (a ++ b) := by
  show Str.append (st a) (st b) = _
  simp [st, Str.append]
theorem st_signs (l : List Nat) : ZZ.signs (st l) = l.map fun c => .str (st [c]) := by simp [ZZ.signs, st]
theorem eq_int {i j : Int} {neg : Bool} {sl : Sl} {ce : List Cell} : kEqG neg (.im (.int i)) (.im (.int j)) sl ce = .ok (.im (.bl (if neg then !decide (i = j) else decide (i = j)))) ce := by
  unfold kEqG
  simp only [asIm, pyEq, toPy]
  rw [if_pos ⟨rfl, rfl⟩]
  simp only [PyData.eqv]
  have : (i == j) = decide (i = j) := by rw [Bool.eq_iff_iff]; simp
  rw [this]
theorem shaped_str {s : Str} (h : PyData.strOk s = true) : SeqAt.shaped (.str s) = true := by
  unfold SeqAt.shaped
  rw [Bool.and_eq_true]
  exact ⟨h, rfl⟩
theorem eq_str {a b : Str} {neg : Bool} {sl : Sl} {ce : List Cell} (ha : PyData.strOk a = true) (hb : PyData.strOk b = true) : kEqG neg (.im (.str a)) (.im (.str b)) sl ce = .ok (.im (.bl (if neg then !decide (a = b) else decide (a = b)))) ce := by
  unfold kEqG
  simp only [asIm, pyEq, toPy]
  rw [if_pos ⟨shaped_str ha, shaped_str hb⟩]
  simp only [PyData.eqv]
  have : (a == b) = decide (a = b) := by rw [Bool.eq_iff_iff]; simp
  rw [this]
theorem ce_get (ce l : List Cell) (k : Nat) : (ce ++ l)[ce.length + k]? = l[k]? := by
  rw [List.getElem?_append_right (by omega)]
  congr 1
  omega
theorem ce_get0 (ce l : List Cell) : (ce ++ l)[ce.length]? = l[0]? := ce_get ce l 0
theorem ce_set (ce l : List Cell) (k : Nat) (c : Cell) : (ce ++ l).set (ce.length + k) c = ce ++ l.set k c := by
  rw [List.set_append_right _ _ (by omega)]
  congr 2
  omega
theorem ce_set0 (ce l : List Cell) (c : Cell) : (ce ++ l).set ce.length c = ce ++ l.set 0 c := ce_set ce l 0 c
theorem ce_take (ce l : List Cell) : (ce ++ l).take ce.length = ce := by simp
end ZZ
set_option Elab.async false
set_option linter.all false
set_option maxRecDepth 100000
namespace ZZ
open PySem PySem.Spec L2
inductive Sg where
  | l | e | g
  deriving DecidableEq
def Sg.code : Sg → Nat
  | .l => 60 | .e => 61 | .g => 62
def txt (s : List Sg) : Str := st (s.map Sg.code)
theorem txt_l : txt [.l] = ("<" : Str) := by decide +kernel
theorem txt_e : txt [.e] = ("=" : Str) := by decide +kernel
def lefts (s : List Sg) : Nat := s.length - s.count .g
def rights (s : List Sg) : Nat := s.length - s.count .l
theorem cnt_le (s : List Sg) (c : Sg) : s.count c ≤ s.length := List.count_le_length
theorem lefts_cons (c : Sg) (s : List Sg) : lefts (c :: s) = lefts s + (if c = .g then 0 else 1) := by
  have := cnt_le s .g
  unfold lefts
  rw [List.count_cons, List.length_cons]
  cases c <;> simp <;> omega
theorem rights_cons (c : Sg) (s : List Sg) : rights (c :: s) = rights s + (if c = .l then 0 else 1) := by
  have := cnt_le s .l
  unfold rights
  rw [List.count_cons, List.length_cons]
  cases c <;> simp <;> omega
theorem lefts_app (a b : List Sg) : lefts (a ++ b) = lefts a + lefts b := by
  have h1 := cnt_le a .g
  have h2 := cnt_le b .g
  unfold lefts
  rw [List.count_append, List.length_append]
  omega
theorem rights_app (a b : List Sg) : rights (a ++ b) = rights a + rights b := by
  have h1 := cnt_le a .l
  have h2 := cnt_le b .l
  unfold rights
  rw [List.count_append, List.length_append]
  omega
def hts : Nat → List Sg → List (Nat × Nat)
  | _, [] => []
  | r, .l :: s => (r, r) :: hts r s
  | r, .e :: s => (r, r + 1) :: hts (r + 1) s
  | r, .g :: s => hts (r + 1) s
def fh : Nat → List (Nat × Nat) → Nat → List Sg
  | r, [], R => List.replicate (R - r) .g
  | r, (a, b) :: ps, R => List.replicate (a - r) .g ++ (if a = b then Sg.l else Sg.e) :: fh b ps R
def Okh : Nat → List (Nat × Nat) → Nat → Prop
  | r, [], R => r ≤ R
  | r, (a, b) :: ps, R => r ≤ a ∧ a ≤ b ∧ b ≤ a + 1 ∧ Okh b ps R
theorem hts_len : ∀ (r : Nat) (s : List Sg), (hts r s).length = lefts s
  | _, [] => rfl
  | r, .l :: s => by rw [hts, List.length_cons, hts_len, lefts_cons]; rfl
  | r, .e :: s => by rw [hts, List.length_cons, hts_len, lefts_cons]; rfl
  | r, .g :: s => by rw [hts, hts_len, lefts_cons]; rfl
theorem okh_mono : ∀ {r r' : Nat} {ps : List (Nat × Nat)} {R : Nat}, r' ≤ r → Okh r ps R → Okh r' ps R
  | r, r', [], R, h, k => Nat.le_trans h k
  | r, r', (a, b) :: ps, R, h, k => ⟨Nat.le_trans h k.1, k.2⟩
theorem hts_ok : ∀ (r : Nat) (s : List Sg), Okh r (hts r s) (r + rights s)
  | r, [] => Nat.le_add_right _ _
  | r, .l :: s => ⟨Nat.le_refl _, Nat.le_refl _, Nat.le_succ _, by rw [rights_cons]; exact hts_ok r s⟩
  | r, .e :: s => ⟨Nat.le_refl _, Nat.le_succ _, Nat.le_refl _, by
      have := hts_ok (r + 1) s
      have e : r + rights (.e :: s) = r + 1 + rights s := by rw [rights_cons]; simp; omega
      rw [e]
      exact this⟩
  | r, .g :: s => by
    rw [rights_cons]
    have := hts_ok (r + 1) s
    rw [show r + 1 + rights s = r + (rights s + 1) by omega] at this
    exact okh_mono (Nat.le_succ _) this
theorem fh_g {r : Nat} {ps : List (Nat × Nat)} {R : Nat} (h : Okh (r + 1) ps R) : fh r ps R = .g :: fh (r + 1) ps R := by
  cases ps with
  | nil =>
    have : r + 1 ≤ R := h
    rw [fh, fh, show R - r = (R - (r + 1)) + 1 by omega, List.replicate_succ]
  | cons p ps =>
    obtain ⟨a, b⟩ := p
    have : r + 1 ≤ a := h.1
    rw [fh, fh, show a - r = (a - (r + 1)) + 1 by omega, List.replicate_succ]
    rfl
theorem fh_hts : ∀ (r : Nat) (s : List Sg), fh r (hts r s) (r + rights s) = s
  | r, [] => by simp [hts, fh, rights]
  | r, .l :: s => by
    rw [hts, fh, rights_cons]
    simp [fh_hts r s]
  | r, .e :: s => by
    rw [hts, fh, rights_cons]
    have := fh_hts (r + 1) s
    rw [show r + 1 + rights s = r + (rights s + 1) by omega] at this
    simp [this]
  | r, .g :: s => by
    have h := hts_ok (r + 1) s
    have := fh_hts (r + 1) s
    rw [hts, rights_cons]
    rw [show r + 1 + rights s = r + (rights s + 1) by omega] at h this
    show fh r (hts (r + 1) s) (r + (rights s + 1)) = _
    rw [fh_g h, this]
theorem hts_rep : ∀ (n r : Nat) (s : List Sg), hts r (List.replicate n .g ++ s) = hts (r + n) s
  | 0, r, s => by simp
  | n + 1, r, s => by
    rw [List.replicate_succ, List.cons_append, hts, hts_rep n (r + 1) s]
    congr 1
    omega
theorem hts_fh : ∀ {r : Nat} {ps : List (Nat × Nat)} {R : Nat}, Okh r ps R → hts r (fh r ps R) = ps
  | r, [], R, h => by
    have := hts_rep (R - r) r []
    rw [List.append_nil] at this
    rw [fh, this]
    rfl
  | r, (a, b) :: ps, R, ⟨h1, h2, h3, h4⟩ => by
    rw [fh, hts_rep]
    have ih := hts_fh h4
    rw [show r + (a - r) = a by omega]
    by_cases hab : a = b
    · subst hab
      simp only [if_true, hts, ih]
    · have : b = a + 1 := by omega
      subst this
      simp only [if_neg hab, hts, ih]
theorem rights_fh : ∀ {r : Nat} {ps : List (Nat × Nat)} {R : Nat}, Okh r ps R → r + rights (fh r ps R) = R
  | r, [], R, h => by
    have : r ≤ R := h
    rw [fh]
    simp [rights, List.count_replicate]
    omega
  | r, (a, b) :: ps, R, ⟨h1, h2, h3, h4⟩ => by
    have ih := rights_fh h4
    rw [fh, rights_app, rights_cons]
    have : rights (List.replicate (a - r) Sg.g) = a - r := by simp [rights, List.count_replicate]
    rw [this]
    by_cases hab : a = b
    · subst hab
      simp
      omega
    · simp [hab]
      omega
theorem lefts_fh {r : Nat} {ps : List (Nat × Nat)} {R : Nat} (h : Okh r ps R) : lefts (fh r ps R) = ps.length := by
  rw [← hts_len r, hts_fh h]
def mxp (p q : Nat × Nat) : Nat × Nat := (max p.1 q.1, max p.2 q.2)
def H (s : List Sg) : List (Nat × Nat) := hts 0 s
def join (s t : List Sg) : List Sg := fh 0 (List.zipWith mxp (H s) (H t)) (rights s)
theorem ok_mx : ∀ {r r' : Nat} {ps qs : List (Nat × Nat)} {R : Nat}, Okh r ps R → Okh r' qs R → ps.length = qs.length → Okh (max r r') (List.zipWith mxp ps qs) R
  | r, r', [], [], R, h, h', _ => by have : r ≤ R := h; have : r' ≤ R := h'; show max r r' ≤ R; omega
  | r, r', (a, b) :: ps, (c, d) :: qs, R, ⟨h1, h2, h3, h4⟩, ⟨k1, k2, k3, k4⟩, hl => by
    refine ⟨?_, ?_, ?_, ok_mx h4 k4 (by simpa using hl)⟩ <;> simp only [mxp] <;> omega
  | _, _, [], _ :: _, _, _, _, hl => by simp at hl
  | _, _, _ :: _, [], _, _, _, hl => by simp at hl
/-- of the shape L, R -/
def In (L R : Nat) (s : List Sg) : Prop := lefts s = L ∧ rights s = R
section
variable {L R : Nat} {a b c : List Sg}
theorem In.ok (h : In L R a) : Okh 0 (H a) R := by
  have := hts_ok 0 a
  rwa [h.2, Nat.zero_add] at this
theorem In.len (h : In L R a) : (H a).length = L := by rw [H, hts_len, h.1]
theorem In.inj (ha : In L R a) (hb : In L R b) (h : H a = H b) : a = b := by
  have h1 := fh_hts 0 a
  have h2 := fh_hts 0 b
  unfold H at h
  rw [← h1, ← h2, h, ha.2, hb.2]
theorem join_H (ha : In L R a) (hb : In L R b) : H (join a b) = List.zipWith mxp (H a) (H b) ∧ In L R (join a b) := by
  have ok : Okh 0 _ R := ok_mx ha.ok hb.ok (by rw [ha.len, hb.len])
  refine ⟨?_, ?_, ?_⟩
  · unfold join
    rw [ha.2]
    exact hts_fh ok
  · unfold join
    rw [ha.2, lefts_fh ok, List.length_zipWith, ha.len, hb.len, Nat.min_self]
  · unfold join
    rw [ha.2]
    have := rights_fh ok
    simpa using this
theorem In.join (ha : In L R a) (hb : In L R b) : In L R (join a b) := (join_H ha hb).2
end
end ZZ
set_option Elab.async false
set_option linter.all false
set_option maxRecDepth 100000
namespace ZZ
open PySem PySem.Spec L2
mutual
/-- strings in order, no instance, at most n deep -/
def okD : Nat → D → Bool
  | _, .non => true
  | _, .bl _ => true
  | _, .int _ => true
  | _, .str s => PyData.strOk s
  | 0, .tup _ => false
  | 0, .lst _ => false
  | 0, .wl _ => false
  | n + 1, .tup ds => okDs n ds
  | n + 1, .lst ds => okDs n ds
  | n + 1, .wl ds => okDs n ds
  | _, .ins _ _ => false
  | _, .dct _ _ => false
def okDs : Nat → List D → Bool
  | _, [] => true
  | n, d :: ds => okD n d && okDs n ds
end
mutual
/-- == on values without instances -/
def eqD : D → D → Bool
  | .non, .non => true
  | .bl a, .bl b => a == b
  | .bl a, .int j => (if a then 1 else 0) == j
  | .int i, .bl b => i == (if b then 1 else 0)
  | .int i, .int j => i == j
  | .str x, .str y => x == y
  | .lst xs, .lst ys => eqDs xs ys
  | .lst xs, .wl ys => eqDs xs ys
  | .wl xs, .lst ys => eqDs xs ys
  | .wl xs, .wl ys => eqDs xs ys
  | .tup xs, .tup ys => eqDs xs ys
  | _, _ => false
def eqDs : List D → List D → Bool
  | [], [] => true
  | x :: xs, y :: ys => eqD x y && eqDs xs ys
  | _, _ => false
end
mutual
theorem okD_py : ∀ (n : Nat) (d : D), okD n d = true → ∃ p, toPy d = some p ∧ p.canLay0 = true ∧ p.depth ≤ n + 1
  | _, .non, _ => ⟨.none, rfl, rfl, by simp [PyData.depth]⟩
  | _, .bl b, _ => ⟨.bool b, rfl, rfl, by simp [PyData.depth]⟩
  | _, .int b, _ => ⟨.int b, rfl, rfl, by simp [PyData.depth]⟩
  | _, .str b, h => ⟨.str b, rfl, by rw [PyData.canLay0]; simpa [okD] using h, by simp [PyData.depth]⟩
  | 0, .tup _, h => by simp [okD] at h
  | 0, .lst _, h => by simp [okD] at h
  | 0, .wl _, h => by simp [okD] at h
  | n + 1, .tup ds, h => by
    obtain ⟨ps, h1, h2, h3⟩ := okDs_py n ds (by simpa [okD] using h)
    exact ⟨.tuple ps, by rw [toPy, h1]; rfl, by rw [PyData.canLay0]; exact h2, by rw [PyData.depth]; omega⟩
  | n + 1, .lst ds, h => by
    obtain ⟨ps, h1, h2, h3⟩ := okDs_py n ds (by simpa [okD] using h)
    exact ⟨.list ps, by rw [toPy, h1]; rfl, by rw [PyData.canLay0]; exact h2, by rw [PyData.depth]; omega⟩
  | n + 1, .wl ds, h => by
    obtain ⟨ps, h1, h2, h3⟩ := okDs_py n ds (by simpa [okD] using h)
    exact ⟨.list ps, by rw [toPy, h1]; rfl, by rw [PyData.canLay0]; exact h2, by rw [PyData.depth]; omega⟩
  | 0, .ins _ _, h => by simp [okD] at h
  | _ + 1, .ins _ _, h => by simp [okD] at h
  | 0, .dct _ _, h => by simp [okD] at h
  | _ + 1, .dct _ _, h => by simp [okD] at h
theorem okDs_py : ∀ (n : Nat) (ds : List D), okDs n ds = true → ∃ ps, toPys ds = some ps ∧ PyData.canLayAll0 ps = true ∧ PyData.depthAll ps ≤ n + 1
  | _, [], _ => ⟨[], rfl, rfl, by simp [PyData.depthAll]⟩
  | n, d :: ds, h => by
    have h' : okD n d = true ∧ okDs n ds = true := by simpa [okDs] using h
    obtain ⟨p, a1, a2, a3⟩ := okD_py n d h'.1
    obtain ⟨ps, b1, b2, b3⟩ := okDs_py n ds h'.2
    refine ⟨p :: ps, by rw [toPys, a1, b1], by rw [PyData.canLayAll0, a2, b2]; rfl, by rw [PyData.depthAll]; omega⟩
end
mutual
theorem eqv_eqD : ∀ (d e : D) (p q : PyData), toPy d = some p → toPy e = some q → PyData.eqv p q = eqD d e
  | .non, e, p, q, hp, hq => by
    cases hp
    cases e <;> simp only [toPy, Option.map_eq_some_iff, Option.some.injEq, reduceCtorEq] at hq <;> first | (cases hq; rfl) | (obtain ⟨_, _, rfl⟩ := hq; rfl) | (subst hq; rfl)
  | .bl b, e, p, q, hp, hq => by
    cases hp
    cases e <;> simp only [toPy, Option.map_eq_some_iff, Option.some.injEq, reduceCtorEq] at hq <;> first | (cases hq; rfl) | (obtain ⟨_, _, rfl⟩ := hq; rfl) | (subst hq; rfl)
  | .int b, e, p, q, hp, hq => by
    cases hp
    cases e <;> simp only [toPy, Option.map_eq_some_iff, Option.some.injEq, reduceCtorEq] at hq <;> first | (cases hq; rfl) | (obtain ⟨_, _, rfl⟩ := hq; rfl) | (subst hq; rfl)
  | .str b, e, p, q, hp, hq => by
    cases hp
    cases e <;> simp only [toPy, Option.map_eq_some_iff, Option.some.injEq, reduceCtorEq] at hq <;> first | (cases hq; rfl) | (obtain ⟨_, _, rfl⟩ := hq; rfl) | (subst hq; rfl)
  | .ins _ _, e, p, q, hp, hq => by simp [toPy] at hp
  | .tup xs, e, p, q, hp, hq => by
    simp only [toPy, Option.map_eq_some_iff] at hp
    obtain ⟨ps, hps, rfl⟩ := hp
    cases e <;> simp only [toPy, Option.map_eq_some_iff, Option.some.injEq, reduceCtorEq] at hq
    case tup ys =>
      obtain ⟨qs, hqs, rfl⟩ := hq
      rw [PyData.eqv, eqD]
      exact eqvs_eqDs xs ys ps qs hps hqs
    all_goals first | (cases hq; rfl) | (obtain ⟨_, _, rfl⟩ := hq; rfl) | (subst hq; rfl)
  | .lst xs, e, p, q, hp, hq => by
    simp only [toPy, Option.map_eq_some_iff] at hp
    obtain ⟨ps, hps, rfl⟩ := hp
    cases e <;> simp only [toPy, Option.map_eq_some_iff, Option.some.injEq, reduceCtorEq] at hq
    case lst ys =>
      obtain ⟨qs, hqs, rfl⟩ := hq
      rw [PyData.eqv, eqD]
      exact eqvs_eqDs xs ys ps qs hps hqs
    case wl ys =>
      obtain ⟨qs, hqs, rfl⟩ := hq
      rw [PyData.eqv, eqD]
      exact eqvs_eqDs xs ys ps qs hps hqs
    all_goals first | (cases hq; rfl) | (obtain ⟨_, _, rfl⟩ := hq; rfl) | (subst hq; rfl)
  | .wl xs, e, p, q, hp, hq => by
    simp only [toPy, Option.map_eq_some_iff] at hp
    obtain ⟨ps, hps, rfl⟩ := hp
    cases e <;> simp only [toPy, Option.map_eq_some_iff, Option.some.injEq, reduceCtorEq] at hq
    case lst ys =>
      obtain ⟨qs, hqs, rfl⟩ := hq
      rw [PyData.eqv, eqD]
      exact eqvs_eqDs xs ys ps qs hps hqs
    case wl ys =>
      obtain ⟨qs, hqs, rfl⟩ := hq
      rw [PyData.eqv, eqD]
      exact eqvs_eqDs xs ys ps qs hps hqs
    all_goals first | (cases hq; rfl) | (obtain ⟨_, _, rfl⟩ := hq; rfl) | (subst hq; rfl)
theorem eqvs_eqDs : ∀ (ds es : List D) (ps qs : List PyData), toPys ds = some ps → toPys es = some qs → PyData.eqvAll ps qs = eqDs ds es
  | [], [], ps, qs, hp, hq => by cases hp; cases hq; rfl
  | [], e :: es, ps, qs, hp, hq => by
    cases hp
    rw [toPys] at hq
    split at hq
    · cases hq; rfl
    · cases hq
  | d :: ds, [], ps, qs, hp, hq => by
    cases hq
    rw [toPys] at hp
    split at hp
    · cases hp; rfl
    · cases hp
  | d :: ds, e :: es, ps, qs, hp, hq => by
    rw [toPys] at hp hq
    split at hp
    · rename_i p ps' h1 h2
      cases hp
      split at hq
      · rename_i q qs' h3 h4
        cases hq
        rw [PyData.eqvAll, eqDs, eqv_eqD d e p q h1 h3, eqvs_eqDs ds es ps' qs' h2 h4]
      · cases hq
    · cases hp
end
theorem pyEq_ok {d e : D} (hd : okD 60 d = true) (he : okD 60 e = true) : pyEq d e = some (eqD d e) := by
  obtain ⟨p, a1, a2, a3⟩ := okD_py 60 d hd
  obtain ⟨q, b1, b2, b3⟩ := okD_py 60 e he
  unfold pyEq
  simp only [a1, b1]
  have sh : ∀ r : PyData, r.canLay0 = true → r.depth ≤ 60 + 1 → SeqAt.shaped r = true := fun r h1 h2 => by
    unfold SeqAt.shaped
    rw [Bool.and_eq_true]
    exact ⟨h1, by rw [decide_eq_true_eq]; omega⟩
  rw [if_pos ⟨sh p a2 a3, sh q b2 b3⟩, eqv_eqD d e p q a1 b1]
theorem eq_gd {d e : D} {neg : Bool} {sl : Sl} {ce : List Cell} (hd : okD 60 d = true) (he : okD 60 e = true) : kEqG neg (.im d) (.im e) sl ce = .ok (.im (.bl (if neg then !eqD d e else eqD d e))) ce := by
  unfold kEqG
  simp only [asIm, pyEq_ok hd he]
mutual
theorem eqD_refl : ∀ (d : D) (n : Nat), okD n d = true → eqD d d = true
  | .non, _, _ => rfl
  | .bl b, _, _ => by simp [eqD]
  | .int b, _, _ => by simp [eqD]
  | .str b, _, _ => by simp [eqD]
  | .tup ds, 0, h => by simp [okD] at h
  | .lst ds, 0, h => by simp [okD] at h
  | .wl ds, 0, h => by simp [okD] at h
  | .tup ds, n + 1, h => by rw [eqD]; exact eqDs_refl ds n (by simpa [okD] using h)
  | .lst ds, n + 1, h => by rw [eqD]; exact eqDs_refl ds n (by simpa [okD] using h)
  | .wl ds, n + 1, h => by rw [eqD]; exact eqDs_refl ds n (by simpa [okD] using h)
  | .ins _ _, 0, h => by simp [okD] at h
  | .ins _ _, n + 1, h => by simp [okD] at h
  | .dct _ _, 0, h => by simp [okD] at h
  | .dct _ _, n + 1, h => by simp [okD] at h
theorem eqDs_refl : ∀ (ds : List D) (n : Nat), okDs n ds = true → eqDs ds ds = true
  | [], _, _ => rfl
  | d :: ds, n, h => by
    have h' : okD n d = true ∧ okDs n ds = true := by simpa [okDs] using h
    rw [eqDs, eqD_refl d n h'.1, eqDs_refl ds n h'.2]
    rfl
end
theorem okDs_map {α : Type} (F : α → D) (n : Nat) (h : ∀ a, okD n (F a) = true) : ∀ xs : List α, okDs n (xs.map F) = true
  | [] => by simp [okDs]
  | x :: xs => by rw [List.map_cons, okDs, h, okDs_map F n h xs]; rfl
theorem okDs_all {n : Nat} : ∀ {ds : List D}, (∀ d ∈ ds, okD n d = true) → okDs n ds = true
  | [], _ => by simp [okDs]
  | x :: xs, h => by rw [okDs, h x (List.mem_cons_self ..), okDs_all fun d hd => h d (List.mem_cons_of_mem _ hd)]; rfl
theorem rng1 (n : Nat) (h : n < 2 ^ 60) : kRng1 [.im (.int (n : Int))] = some ((List.range n).map fun (i : Nat) => D.int (i : Int)) := by
  have hz : isz (n : Int) = true := isz_of (by omega)
  unfold kRng1
  simp only [hz, if_true, Int.toNat_natCast]
  unfold rangeD
  refine congrArg some (List.map_congr_left fun i _ => ?_)
  rw [Int.zero_add, Int.mul_one]
theorem atI_nat {α : Type} (l : List α) (k : Nat) (v : α) (h : l[k]? = some v) : atI l (k : Int) = some v := by
  have hlt := (List.getElem?_eq_some_iff.mp h).1
  unfold atI ixN
  rw [if_pos (by omega), if_pos (by omega), Int.toNat_natCast, Option.bind_some, h]
theorem ix_lst {l : List D} {k : Nat} {v : D} (h : l[k]? = some v) {sl : Sl} {ce : List Cell} : kIx (.im (.lst l)) (.im (.int k)) sl ce = .ok (.im v) ce := by
  unfold kIx
  simp only [asSq, atI_nat l k v h]
theorem set_same {ce : List Cell} {k : Nat} {c : Cell} (h : ce[k]? = some c) : ce.set k c = ce := by
  refine List.ext_getElem? fun j => ?_
  by_cases hj : k = j
  · subst hj
    rw [List.getElem?_set_self (List.getElem?_eq_some_iff.mp h).1, h]
  · rw [List.getElem?_set_ne hj]
theorem set_take {ce : List Cell} {k : Nat} {c : Cell} : (ce.set k c).take ce.length = ce.set k c := List.take_of_length_le (by simp)
/-- a comprehension whose items change nothing -/
theorem lcD_map {β : Type} {own : List Nat} {g : GD} {t f : DE} {sl : Sl} (ce : List Cell) (F φ : β → D) (p : β → Bool) : ∀ (bs : List β) (acc : List D), acc.length + bs.length < 16777216 →
    (∀ b ∈ bs, ∀ acc : List D, ∃ sl1, g (F b) (wipeD sl own) = some sl1 ∧ t sl1 (ce ++ [.lst acc]) = .ok (.im (.bl (p b))) (ce ++ [.lst acc]) ∧ (p b = true → f sl1 (ce ++ [.lst acc]) = .ok (.im (φ b)) (ce ++ [.lst acc]))) →
    lcD own g t f ce.length (bs.map F) sl (ce ++ [.lst acc]) = .ok (.cell ce.length) (ce ++ [.lst (acc ++ (bs.filter p).map φ)])
  | [], acc, hl, h => by rw [List.map_nil, lcD]; simp
  | d :: ds, acc, hl, h => by
    rw [List.length_cons] at hl
    obtain ⟨sl1, h1, h2, h3⟩ := h d (List.mem_cons_self ..) acc
    rw [List.map_cons, lcD]
    simp only [h1, h2]
    cases hp : p d with
    | true =>
      have ih := lcD_map ce F φ p ds (acc ++ [φ d]) (by rw [List.length_append, List.length_singleton]; omega) fun d hd => h d (List.mem_cons_of_mem _ hd)
      rw [if_pos rfl]
      simp only [h3 hp, ce_get0, List.getElem?_cons_zero, ce_set0, List.set_cons_zero]
      rw [if_pos (by show acc.length < 16777216; omega), ih, List.filter_cons_of_pos hp, List.map_cons, List.append_assoc, List.singleton_append]
    | false =>
      have ih := lcD_map ce F φ p ds acc (by omega) fun d hd => h d (List.mem_cons_of_mem _ hd)
      rw [if_neg (by decide), ih, List.filter_cons_of_neg (by simp [hp])]
theorem lc_filter {β : Type} {own : List Nat} {fi : DI} {g : GD} {t f : DE} {sl : Sl} {ce : List Cell} (bs : List β) (F φ : β → D) (p : β → Bool) (hi : fi sl ce = .ok (bs.map F) ce) (hl : bs.length < 16777216)
    (h : ∀ b ∈ bs, ∀ acc : List D, ∃ sl1, g (F b) (wipeD sl own) = some sl1 ∧ t sl1 (ce ++ [.lst acc]) = .ok (.im (.bl (p b))) (ce ++ [.lst acc]) ∧ (p b = true → f sl1 (ce ++ [.lst acc]) = .ok (.im (φ b)) (ce ++ [.lst acc]))) :
    eSettle (eLcC own fi g t f) sl ce = .ok (.im (.lst ((bs.filter p).map φ))) ce := by
  unfold eSettle eLcC
  simp only [hi]
  rw [lcD_map ce F φ p bs [] (by rw [List.length_nil]; omega) h]
  simp only [ce_get0, List.getElem?_cons_zero, List.nil_append, ce_set0, ce_take]
theorem lc_map {β : Type} {own : List Nat} {fi : DI} {g : GD} {f : DE} {sl : Sl} {ce : List Cell} (bs : List β) (F φ : β → D) (hi : fi sl ce = .ok (bs.map F) ce) (hl : bs.length < 16777216)
    (h : ∀ b ∈ bs, ∀ acc : List D, ∃ sl1, g (F b) (wipeD sl own) = some sl1 ∧ f sl1 (ce ++ [.lst acc]) = .ok (.im (φ b)) (ce ++ [.lst acc])) :
    eSettle (eLcC own fi g (eC (.bl true)) f) sl ce = .ok (.im (.lst (bs.map φ))) ce := by
  have := lc_filter (own := own) (fi := fi) (g := g) (t := eC (.bl true)) (f := f) (sl := sl) (ce := ce) bs F φ (fun _ => true) hi hl (fun d hd acc => by
    obtain ⟨sl1, h1, h2⟩ := h d hd acc
    exact ⟨sl1, h1, rfl, fun _ => h2⟩)
  rw [this]
  congr 4
  simp
theorem eq_any {v u : Val} {d e : D} {neg : Bool} {sl : Sl} {ce : List Cell} (h1 : asIm ce v = some d) (h2 : asIm ce u = some e) (hd : okD 60 d = true) (he : okD 60 e = true) : kEqG neg v u sl ce = .ok (.im (.bl (if neg then !eqD d e else eqD d e))) ce := by
  unfold kEqG
  simp only [h1, h2, pyEq_ok hd he]
/-- a comprehension whose items draw from the store -/
theorem lcD_thread {own : List Nat} {g : GD} {f : DE} {sl : Sl} (I : List Cell → Prop) (R : D → D → Prop) (n : Nat) (hn : ∀ ce, I ce → ce.length = n) : ∀ (ds acc : List D) (ce : List Cell), acc.length + ds.length < 16777216 → I ce →
    (∀ d ∈ ds, ∀ (acc : List D) (ce : List Cell), I ce → ∃ sl1 ce2 y, g d (wipeD sl own) = some sl1 ∧ f sl1 (ce ++ [.lst acc]) = .ok (.im y) (ce2 ++ [.lst acc]) ∧ I ce2 ∧ R d y) →
    ∃ ys ce2, lcD own g (eC (.bl true)) f n ds sl (ce ++ [.lst acc]) = .ok (.cell n) (ce2 ++ [.lst (acc ++ ys)]) ∧ I ce2 ∧ ys.length = ds.length ∧ ∀ (i : Nat) (d y : D), ds[i]? = some d → ys[i]? = some y → R d y
  | [], acc, ce, hl, hI, h => ⟨[], ce, by rw [lcD]; simp, hI, rfl, fun i d y h1 _ => by simp at h1⟩
  | d :: ds, acc, ce, hl, hI, h => by
    rw [List.length_cons] at hl
    obtain ⟨sl1, ce1, y, h1, h2, h3, h4⟩ := h d (List.mem_cons_self ..) acc ce hI
    obtain ⟨ys, ce2, e, i2, l2, r2⟩ := lcD_thread I R n hn ds (acc ++ [y]) ce1 (by rw [List.length_append, List.length_singleton]; omega) h3 fun d hd => h d (List.mem_cons_of_mem _ hd)
    refine ⟨y :: ys, ce2, ?_, i2, by rw [List.length_cons, List.length_cons, l2], fun i d' y' q1 q2 => ?_⟩
    · rw [lcD]
      have hn1 := hn ce1 h3
      subst hn1
      simp only [h1, eC, if_true, h2, ce_get0, List.getElem?_cons_zero, ce_set0, List.set_cons_zero]
      rw [if_pos (by show acc.length < 16777216; omega), e, List.append_assoc, List.singleton_append]
    · cases i with
      | zero =>
        simp only [List.getElem?_cons_zero, Option.some.injEq] at q1 q2
        subst q1 q2
        exact h4
      | succ i =>
        simp only [List.getElem?_cons_succ] at q1 q2
        exact r2 i d' y' q1 q2
theorem lc_thread {own : List Nat} {fi : DI} {g : GD} {f : DE} {sl : Sl} {ce : List Cell} (ds : List D) (I : List Cell → Prop) (R : D → D → Prop) (hi : fi sl ce = .ok ds ce) (hl : ds.length < 16777216) (hI : I ce) (hn : ∀ ce', I ce' → ce'.length = ce.length)
    (h : ∀ d ∈ ds, ∀ (acc : List D) (ce : List Cell), I ce → ∃ sl1 ce2 y, g d (wipeD sl own) = some sl1 ∧ f sl1 (ce ++ [.lst acc]) = .ok (.im y) (ce2 ++ [.lst acc]) ∧ I ce2 ∧ R d y) :
    ∃ ys ce2, eSettle (eLcC own fi g (eC (.bl true)) f) sl ce = .ok (.im (.lst ys)) ce2 ∧ I ce2 ∧ ys.length = ds.length ∧ ∀ (i : Nat) (d y : D), ds[i]? = some d → ys[i]? = some y → R d y := by
  obtain ⟨ys, ce2, e, i2, l2, r2⟩ := lcD_thread (own := own) (g := g) (f := f) (sl := sl) I R ce.length hn ds [] ce (by rw [List.length_nil]; omega) hI h
  refine ⟨ys, ce2, ?_, i2, l2, r2⟩
  unfold eSettle eLcC
  simp only [hi, e]
  have hn2 := hn ce2 i2
  rw [← hn2]
  simp only [ce_get0, List.getElem?_cons_zero, List.nil_append, ce_set0, ce_take]
end ZZ
set_option Elab.async false
set_option linter.all false
set_option maxRecDepth 100000
set_option maxHeartbeats 4000000
namespace ZZ
open PySem PySem.Spec L2
theorem sl1 : ("<" : Str) = txt [.l] := txt_l.symm
theorem sl2 : ("=" : Str) = txt [.e] := txt_e.symm
theorem app_ok {ce : List Cell} {acc : List D} {d : D} {sl : Sl} (h : acc.length < LINE) : kAppend (.cell ce.length) [.im d] sl (ce ++ [.lst acc]) = .ok (.im .non) (ce ++ [.lst (acc ++ [d])]) := by
  unfold kAppend
  simp only [ce_get0, List.getElem?_cons_zero, h, if_true, ce_set0, List.set_cons_zero]
end ZZ
namespace ZZ
open PySem PySem.Spec L2
end ZZ
set_option Elab.async false
set_option linter.all false
set_option maxRecDepth 100000
set_option maxHeartbeats 4000000
namespace ZZ
open PySem PySem.Spec L2
theorem lefts_nil : lefts [] = 0 := rfl
theorem rights_nil : rights [] = 0 := rfl
theorem sizes_rev (s : List Sg) : lefts s.reverse = lefts s ∧ rights s.reverse = rights s := by
  induction s with
  | nil => exact ⟨rfl, rfl⟩
  | cons c s ih =>
    rw [List.reverse_cons, lefts_app, rights_app, ih.1, ih.2]
    simp only [lefts_cons, rights_cons, lefts_nil, rights_nil, Nat.zero_add]
    exact ⟨trivial, trivial⟩
theorem In.rev {L R : Nat} {a : List Sg} (h : In L R a) : In L R a.reverse := ⟨(sizes_rev a).1.trans h.1, (sizes_rev a).2.trans h.2⟩
def sh (k : Nat) (p : Nat × Nat) : Nat × Nat := (p.1 + k, p.2 + k)
/-- how a left and a right layer lie: -1 older, 0 one, 1 younger -/
def rel : List Sg → Nat → Nat → Int
  | [], _, _ => 0
  | .l :: _, 0, _ => -1
  | .l :: s, i + 1, j => rel s i j
  | .g :: _, _, 0 => 1
  | .g :: s, i, j + 1 => rel s i j
  | .e :: _, 0, 0 => 0
  | .e :: _, 0, _ + 1 => -1
  | .e :: _, _ + 1, 0 => 1
  | .e :: s, i + 1, j + 1 => rel s i j
end ZZ
set_option Elab.async false
set_option linter.all false
set_option maxRecDepth 100000
set_option maxHeartbeats 4000000
namespace ZZ
open PySem PySem.Spec L2
section
variable {sl : Sl} {ce : List Cell}
theorem st_cut (s : List Nat) (lo hi : Option Int) : L2.cutS (st s) lo hi = st ((s.drop (HT.sIx s.length 0 lo)).take (HT.sIx s.length s.length hi - HT.sIx s.length 0 lo)) := by
  unfold L2.cutS
  rw [st_len]
  unfold st
  simp only [List.toList_toArray]
theorem st_to (s : List Nat) (k : Nat) (h : k ≤ s.length) (h2 : s.length ≤ 16777216) : kSlL (.im (.str (st s))) none (some (k : Int)) sl ce = .ok (.im (.str (st (s.take k)))) ce := by
  unfold kSlL
  simp only [st_len, h2, if_true, st_cut, HT.sIx_nat, HT.sIx_none, List.drop_zero, Nat.sub_zero]
  rw [Nat.min_eq_left h]
theorem st_from (s : List Nat) (k : Nat) (h : k ≤ s.length) (h2 : s.length ≤ 16777216) : kSlL (.im (.str (st s))) (some (k : Int)) none sl ce = .ok (.im (.str (st (s.drop k)))) ce := by
  unfold kSlL
  simp only [st_len, h2, if_true, st_cut, HT.sIx_nat, HT.sIx_none]
  rw [Nat.min_eq_left h, List.take_of_length_le (by simp)]
theorem ix_st (s : List Nat) (k c : Nat) (h : s[k]? = some c) (h2 : s.length ≤ 16777216) : kIx (.im (.str (st s))) (.im (.int (k : Int))) sl ce = .ok (.im (.str (st [c]))) ce := by
  unfold kIx
  simp only [st_len, h2, if_true]
  have e : (st s).cps.toList = s := by unfold st; simp
  rw [e, atI_nat _ _ _ h]
  rfl
theorem add_st (x y : List Nat) (h : x.length + y.length ≤ 16777216) : kAdd (.im (.str (st x))) (.im (.str (st y))) sl ce = .ok (.im (.str (st (x ++ y)))) ce := by
  unfold kAdd
  simp only [st_len, st_app]
  rw [if_pos h]
end
def enF : Nat → List D → List D
  | _, [] => []
  | k, d :: ds => .tup [.int (k : Nat), d] :: enF (k + 1) ds
theorem enF_eq (ds : List D) : enumD ds = enF 0 ds := by
  have key : ∀ (ds pre : List D), (List.range' pre.length ds.length).filterMap (fun (i : Nat) => (pre ++ ds)[i]?.map fun d => D.tup [.int (i : Int), d]) = enF pre.length ds := by
    intro ds
    induction ds with
    | nil => intro pre; rfl
    | cons d ds ih =>
      intro pre
      have h2 := ih (pre ++ [d])
      rw [List.length_cons, List.range'_succ, List.filterMap_cons]
      have e : (pre ++ d :: ds)[pre.length]? = some d := by simp
      rw [e, Option.map_some, enF]
      simp only
      rw [List.length_append, List.length_singleton, List.append_assoc, List.singleton_append] at h2
      rw [h2]
  have := key ds []
  rw [List.nil_append, List.length_nil] at this
  unfold enumD
  rw [List.range_eq_range']
  exact this
end ZZ
set_option Elab.async false
set_option linter.all false
set_option maxRecDepth 100000
set_option maxHeartbeats 4000000
namespace ZZ
open PySem PySem.Spec L2 L2H
noncomputable section
abbrev G_Core_narrowed_1_least_most : List Val → List Val → List Val := gApp
def flds : Nat → List Str
  | 1 => ["index"]
  | 2 => ["index"]
  | 3 => ["index"]
  | 4 => ["index"]
  | 5 => ["layers", "joints"]
  | _ => []
abbrev Zz (w : World) (K : PySem.W.Frag) (cl : Nat → Addr) : Zx := ⟨K, cl, flds, w⟩
abbrev e_BadCore : Nat := 0
abbrev e_BadLayer : Nat := 1
abbrev e_BadJoint : Nat := 2
abbrev e_NoLayer : Nat := 3
abbrev e_NoJoint : Nat := 4
abbrev c_Core : Nat := 5
def x_BadCore (c : Nat) : Bool := [true, true, true, false, false].getD c false
def x_BadJoint (c : Nat) : Bool := [false, false, true, false, false].getD c false
def x_BadLayer (c : Nat) : Bool := [false, true, false, false, false].getD c false
def x_SiltError (c : Nat) : Bool := [true, true, true, true, true].getD c false
def x_ValueError (c : Nat) : Bool := [true, true, true, true, true].getD c false
def i_Core : Ty → Option Bool
  | .t "NoneType" => some false
  | .t "bool" => some false
  | .t "int" => some false
  | .t "str" => some false
  | .t "tuple" => some false
  | .t "list" => some false
  | .c 5 => some true
  | _ => none
def i_bool : Ty → Option Bool
  | .t "NoneType" => some false
  | .t "bool" => some true
  | .t "int" => some false
  | .t "str" => some false
  | .t "tuple" => some false
  | .t "list" => some false
  | .c 5 => some false
  | _ => none
def i_int : Ty → Option Bool
  | .t "NoneType" => some false
  | .t "bool" => some true
  | .t "int" => some true
  | .t "str" => some false
  | .t "tuple" => some false
  | .t "list" => some false
  | .c 5 => some false
  | _ => none
def i_tuple : Ty → Option Bool
  | .t "NoneType" => some false
  | .t "bool" => some false
  | .t "int" => some false
  | .t "str" => some false
  | .t "tuple" => some true
  | .t "list" => some false
  | .c 5 => some false
  | _ => none
def bh_is_joint : DSt :=
  (sSeq (sAsg (gT [(gN 1), (gN 2)]) (eV 0)) (sRet (eAnd (eBin kGe (eV 1) (eC (.int 0))) (eOr (eBin (kIsN false) (eV 2) (eC .non)) (eBin kLe (eV 1) (eV 2))))))
def fh_is_joint : DF := noX (mkD 3 bh_is_joint)
def lph_Core___init___0 : DSt :=
  sStuck
def lph_Core___init___1 : DSt :=
  (sIf (eNot (eArgs [(eV 5)] (kCall fh_is_joint)))
    sStuck
    sNil)
def bh_Core___init__ : DSt :=
  (sSeq (sIf (eBin kGt (eArgs [(eV 1)] kLen) (eC (.int 20)))
    sStuck
    sNil) (sSeq (sFor (iArgs [(eV 1)] kEnum) (gT [(gN 3), (gN 4)]) lph_Core___init___0) (sSeq (sIf (eBin (kIsNC false) (eV 2) (eC .non))
    (sSet 2 (eBin kRepL (eArgs [(eArgs [(eC (.int 0)), (eC .non)] kTup)] kLst) (eBin kAdd (eArgs [(eV 1)] kLen) (eC (.int 1)))))
    sNil) (sSeq (sIf (eBin kNe (eArgs [(eV 2)] kLen) (eBin kAdd (eArgs [(eV 1)] kLen) (eC (.int 1))))
    sStuck
    sNil) (sSeq (sFor (iArgs [(eV 2)] kEnum) (gT [(gN 3), (gN 5)]) lph_Core___init___1) (sSeq (sFldSet c_Core 0 (eV 0) (eArgs [(eV 1)] kListI)) (sFldSet c_Core 1 (eV 0) (eArgs [(eV 2)] kListI))))))))
def fh_Core___init__ : DF := noX (mkD 6 bh_Core___init__)
def bh_bare_core : DSt :=
  (sRet (eArgs [(eLcE (iExp (eV 0) itT))] (kMakeN c_Core 2 fh_Core___init__)))
def fh_bare_core : DF := noX (mkD 2 bh_bare_core)
def bh_Core___len__ : DSt :=
  (sRet (eArgs [(eUn (kFld c_Core 0) (eV 0))] kLen))
def fh_Core___len__ : DF := noX (mkD 1 bh_Core___len__)
def bh_Core_joint : DSt :=
  (sSeq (sIf (eNot (eChain kLe kLt (eC (.int 0)) (eV 1) (eArgs [(eUn (kFld c_Core 1) (eV 0))] kLen)))
    sStuck
    sNil) (sRet (eBin kIx (eUn (kFld c_Core 1) (eV 0)) (eV 1))))
def fh_Core_joint : DF := noX (mkD 2 bh_Core_joint)
def bh_Core_thickness : DSt :=
  (sRet (eArgs [(eLcE (iExp (eUn (kFld c_Core 0) (eV 0)) itL))] kSum))
def fh_Core_thickness : DF := noX (mkD 2 bh_Core_thickness)
def bh__law_whole : DSt :=
  (sRet (eAnd (eUn (kIsi i_int) (eV 0)) (eNot (eUn (kIsi i_bool) (eV 0)))))
def fh__law_whole : DF := noX (mkD 1 bh__law_whole)
def lph__law_same_0 : DSt :=
  sStuck
def lph__law_same_1 : DSt :=
  (sSeq (sSet 6 (eMth (isC c_Core) (kMeth fh_Core_joint) (eV 0) [(eV 4)])) (sSeq (sIf (eOr (eNot (eUn (kIsi i_tuple) (eV 6))) (eOr (eBin kNe (eV 6) (eBin kIx (eV 2) (eV 4))) (eNot (eArgs [(eBin kIx (eV 6) (eC (.int 0)))] (kCall fh__law_whole)))))
    (sRet (eC (.bl false)))
    sNil) (sIf (eAnd (eBin (kIsN true) (eBin kIx (eV 6) (eC (.int 1))) (eC .non)) (eNot (eArgs [(eBin kIx (eV 6) (eC (.int 1)))] (kCall fh__law_whole))))
    (sRet (eC (.bl false)))
    sNil)))
def bh__law_same : DSt :=
  (sSeq (sIf (eOr (eNot (eUn (kIsi i_Core) (eV 0))) (eBin kNe (eUn (kLenO c_Core fh_Core___len__) (eV 0)) (eArgs [(eV 1)] kLen)))
    (sRet (eC (.bl false)))
    sNil) (sSeq (sIf (eBin kNe (eLcE (iExp (eV 0) (itO c_Core 0))) (eV 1))
    (sRet (eC (.bl false)))
    sNil) (sSeq (sSet 3 (eC (.int 0))) (sSeq (sFor (iArgs [(eArgs [(eV 1)] kLen)] kRng1) (gN 4) lph__law_same_0) (sSeq (sFor (iArgs [(eArgs [(eV 2)] kLen)] kRng1) (gN 4) lph__law_same_1) (sRet (eAnd (eArgs [(eUn (kProp c_Core fh_Core_thickness) (eV 0))] (kCall fh__law_whole)) (eBin kEq (eUn (kProp c_Core fh_Core_thickness) (eV 0)) (eV 3)))))))))
def fh__law_same : DF := noX (mkD 7 bh__law_same)
def el_is_layer_0 : DE :=
  (eBin (kInS false) (eV 3) (eC (.str "abcdefghijklmnopqrstuvwxyz")))
def b_is_layer : DSt :=
  (sSeq (sAsg (gT [(gN 1), (gN 2)]) (eV 0)) (sRet (eAnd (eChain kLe kLe (eC (.int 1)) (eArgs [(eV 1)] kLen) (eC (.int 12))) (eAnd (eArgs [(eSettle (eLcC [3] (iExp (eV 1) itS) (gN 3) (eC (.bl true)) el_is_layer_0))] kAll) (eBin kGe (eV 2) (eC (.int 1)))))))
def f_is_layer : DF := mkD 4 b_is_layer
def b_is_joint : DSt :=
  (sSeq (sAsg (gT [(gN 1), (gN 2)]) (eV 0)) (sRet (eAnd (eBin kGe (eV 1) (eC (.int 0))) (eOr (eBin (kIsN false) (eV 2) (eC .non)) (eBin kLe (eV 1) (eV 2))))))
def f_is_joint : DF := mkD 3 b_is_joint
def b_written_layer : DSt :=
  (sRet (eFs [(eUn kFmt (eBin kIx (eV 0) (eC (.int 0)))), (eC (.str ":")), (eUn kFmt (eBin kIx (eV 0) (eC (.int 1))))]))
def f_written_layer : DF := mkD 1 b_written_layer
def b_written_joint : DSt :=
  (sSeq (sAsg (gT [(gN 1), (gN 2)]) (eV 0)) (sRet (eIf (eBin (kIsN false) (eV 2) (eC .non)) (eFs [(eUn kFmt (eV 1)), (eC (.str "-*"))]) (eFs [(eUn kFmt (eV 1)), (eC (.str "-")), (eUn kFmt (eV 2))]))))
def f_written_joint : DF := mkD 3 b_written_joint
def b_joined_joint : DSt :=
  (sSeq (sIf (eOr (eBin (kIsN false) (eBin kIx (eV 0) (eC (.int 1))) (eC .non)) (eBin (kIsN false) (eBin kIx (eV 1) (eC (.int 1))) (eC .non)))
    (sRet (eArgs [(eBin kAdd (eBin kIx (eV 0) (eC (.int 0))) (eBin kIx (eV 1) (eC (.int 0)))), (eC .non)] kTup))
    sNil) (sRet (eArgs [(eBin kAdd (eBin kIx (eV 0) (eC (.int 0))) (eBin kIx (eV 1) (eC (.int 0)))), (eBin kAdd (eBin kIx (eV 0) (eC (.int 1))) (eBin kIx (eV 1) (eC (.int 1))))] kTup)))
def f_joined_joint : DF := mkD 2 b_joined_joint
def lp_Core___init___0 : DSt :=
  (sIf (eNot (eArgs [(eV 4)] (kCall f_is_layer)))
    (sRaise e_BadLayer [(eV 3)])
    sNil)
def lp_Core___init___1 : DSt :=
  (sIf (eNot (eArgs [(eV 5)] (kCall f_is_joint)))
    (sRaise e_BadJoint [(eV 3)])
    sNil)
def b_Core___init__ : DSt :=
  (sSeq (sIf (eBin kGt (eArgs [(eV 1)] kLen) (eC (.int 20)))
    (sRaiseT e_BadCore)
    sNil) (sSeq (sForE (eV 1) (gT [(gN 3), (gN 4)]) lp_Core___init___0) (sSeq (sIf (eBin (kIsNC false) (eV 2) (eC .non))
    (sSet 2 (eBin kRepL (eArgs [(eArgs [(eC (.int 0)), (eC .non)] kTup)] kLst) (eBin kAdd (eArgs [(eV 1)] kLen) (eC (.int 1)))))
    sNil) (sSeq (sIf (eBin kNe (eArgs [(eV 2)] kLen) (eBin kAdd (eArgs [(eV 1)] kLen) (eC (.int 1))))
    (sRaiseT e_BadCore)
    sNil) (sSeq (sForE (eV 2) (gT [(gN 3), (gN 5)]) lp_Core___init___1) (sSeq (sFldSet c_Core 0 (eV 0) (eArgs [(eV 1)] kListI)) (sFldSet c_Core 1 (eV 0) (eArgs [(eV 2)] kListI))))))))
def f_Core___init__ : DF := mkD 6 b_Core___init__
def b_Core___len__ : DSt :=
  (sRet (eArgs [(eUn (kFld c_Core 0) (eV 0))] kLen))
def f_Core___len__ : DF := mkD 1 b_Core___len__
def b_Core___getitem__ : DSt :=
  (sSeq (sIf (eNot (eChain kLe kLt (eC (.int 0)) (eV 1) (eArgs [(eUn (kFld c_Core 0) (eV 0))] kLen)))
    (sRaise e_NoLayer [(eV 1)])
    sNil) (sRet (eBin kIx (eUn (kFld c_Core 0) (eV 0)) (eV 1))))
def f_Core___getitem__ : DF := mkD 2 b_Core___getitem__
def b_Core___eq__ : DSt :=
  (sRet (eAnd (eUn (kIsi i_Core) (eV 1)) (eAnd (eBin kEq (eUn (kFld c_Core 0) (eV 0)) (eUn (kFld c_Core 0) (eV 1))) (eBin kEq (eUn (kFld c_Core 1) (eV 0)) (eUn (kFld c_Core 1) (eV 1))))))
def f_Core___eq__ : DF := mkD 2 b_Core___eq__
def b_Core_joint : DSt :=
  (sSeq (sIf (eNot (eChain kLe kLt (eC (.int 0)) (eV 1) (eArgs [(eUn (kFld c_Core 1) (eV 0))] kLen)))
    (sRaise e_NoJoint [(eV 1)])
    sNil) (sRet (eBin kIx (eUn (kFld c_Core 1) (eV 0)) (eV 1))))
def f_Core_joint : DF := mkD 2 b_Core_joint
def el_Core_thickness_0 : DE :=
  (eBin kIx (eV 1) (eC (.int 1)))
def b_Core_thickness : DSt :=
  (sRet (eArgs [(eSettle (eLcC [1] (iExp (eUn (kFld c_Core 0) (eV 0)) itL) (gN 1) (eC (.bl true)) el_Core_thickness_0))] kSum))
def f_Core_thickness : DF := mkD 2 b_Core_thickness
def lp_Core_written_0 : DSt :=
  (sSeq (sDrop (eMth tyL kAppend (eV 1) [(eArgs [(eV 2)] (kCall f_written_layer))])) (sDrop (eMth tyL kAppend (eV 1) [(eArgs [(eV 3)] (kCall f_written_joint))])))
def b_Core_written : DSt :=
  (sSeq (sSet 1 (eArgs [(eArgs [(eBin kIx (eUn (kFld c_Core 1) (eV 0)) (eC (.int 0)))] (kCall f_written_joint))] kLstC)) (sSeq (sFor (iArgs [(eUn (kFld c_Core 0) (eV 0)), (eSlice (eUn (kFld c_Core 1) (eV 0)) (some (eC (.int 1))) none)] kZip) (gT [(gN 2), (gN 3)]) lp_Core_written_0) (frz 1 (sRet (eMth tyS kJoin (eC (.str " ")) [(eV 1)])))))
def f_Core_written : DF := mkD 4 b_Core_written
def b_Core___add__ : DSt :=
  (sSeq (sIf (eBin kGt (eBin kAdd (eArgs [(eUn (kFld c_Core 0) (eV 0))] kLen) (eArgs [(eUn (kFld c_Core 0) (eV 1))] kLen)) (eC (.int 20)))
    (sRaiseT e_BadCore)
    sNil) (sSeq (sSet 2 (eArgs [(eBin kIx (eUn (kFld c_Core 1) (eV 0)) (eUn kNeg (eC (.int 1)))), (eBin kIx (eUn (kFld c_Core 1) (eV 1)) (eC (.int 0)))] (kCall f_joined_joint))) (sRet (eArgs [(eBin kAdd (eUn (kFld c_Core 0) (eV 0)) (eUn (kFld c_Core 0) (eV 1))), (eBin kAdd (eBin kAdd (eSlice (eUn (kFld c_Core 1) (eV 0)) none (some (eUn kNeg (eC (.int 1))))) (eArgs [(eV 2)] kLst)) (eSlice (eUn (kFld c_Core 1) (eV 1)) (some (eC (.int 1))) none))] (kMake c_Core 2 f_Core___init__)))))
def f_Core___add__ : DF := mkD 3 b_Core___add__
def b_Core___invert__ : DSt :=
  (sRet (eArgs [(eUn kRevV (eUn (kFld c_Core 0) (eV 0))), (eUn kRevV (eUn (kFld c_Core 1) (eV 0)))] (kMake c_Core 2 f_Core___init__)))
def f_Core___invert__ : DF := mkD 1 b_Core___invert__
def b_Core_turned : DSt :=
  (sSeq (sIf (eNot (eChain kLe kLe (eC (.int 0)) (eV 1) (eArgs [(eUn (kFld c_Core 0) (eV 0))] kLen)))
    (sRaise e_NoLayer [(eV 1)])
    sNil) (sSeq (sIf (eNot (eChain kLe kLe (eV 1) (eV 2) (eArgs [(eUn (kFld c_Core 0) (eV 0))] kLen)))
    (sRaise e_NoLayer [(eV 2)])
    sNil) (sSeq (sSet 3 (eArgs [(eUn (kFld c_Core 0) (eV 0))] kListC)) (sSeq (sSet 4 (eArgs [(eUn (kFld c_Core 1) (eV 0))] kListC)) (sSeq (sIf (eBin kLt (eV 1) (eV 2))
    (sSeq (sSetSl (eV 3) (eV 1) (eV 2) (eUn kRevV (eSlice (eV 3) (some (eV 1)) (some (eV 2))))) (sSetSl (eV 4) (eBin kAdd (eV 1) (eC (.int 1))) (eV 2) (eUn kRevV (eSlice (eV 4) (some (eBin kAdd (eV 1) (eC (.int 1)))) (some (eV 2))))))
    sNil) (frz 4 (frz 3 (sRet (eArgs [(eV 3), (eV 4)] (kMake c_Core 2 f_Core___init__))))))))))
def f_Core_turned : DF := mkD 5 b_Core_turned
def b_Core_narrowed : DSt :=
  (sSeq (sAsg (gT [(gN 4), (gN 5)]) (eMth (isC c_Core) (kMeth f_Core_joint) (eV 0) [(eV 1)])) (sSeq (sIf (eBin kGt (eV 2) (eV 4))
    (sSet 4 (eV 2))
    sNil) (sSeq (sIf (eOr (eBin (kIsN false) (eV 5) (eC .non)) (eAnd (eBin (kIsN true) (eV 3) (eC .non)) (eBin kLt (eV 3) (eV 5))))
    (sSet 5 (eV 3))
    sNil) (sSeq (sIf (eAnd (eBin (kIsN true) (eV 5) (eC .non)) (eBin kLt (eV 5) (eV 4)))
    (sRaise e_BadJoint [(eV 1)])
    sNil) (sSeq (sSet 6 (eArgs [(eUn (kFld c_Core 1) (eV 0))] kListC)) (sSeq (sSetIx (eV 6) (eV 1) (eArgs [(eV 4), (eV 5)] kTup)) (frz 6 (sRet (eArgs [(eUn (kFld c_Core 0) (eV 0)), (eV 6)] (kMake c_Core 2 f_Core___init__))))))))))
def f_Core_narrowed : DF := mkD 7 b_Core_narrowed
def el_bare_core_0 : DE :=
  (eArgs [(eV 1), (eC (.int 1))] kTup)
def b_bare_core : DSt :=
  (sRet (eArgs [(eSettle (eLcC [1] (iExp (eV 0) itT) (gN 1) (eC (.bl true)) el_bare_core_0))] (kMakeN c_Core 2 f_Core___init__)))
def f_bare_core : DF := mkDS 2 0 b_bare_core
def b__law_mix : DSt :=
  (sSeq (sSet 2 (eBin kMod (eArgs [(eBin kAdd (eBin kMul (eBin kMul (eV 0) (eC (.int 97))) (eBin kAdd (eV 1) (eC (.int 1)))) (eBin kMul (eC (.int 31)) (eV 1)))] kInt) (eC (.int 1000003)))) (sRet (eBin kAdd (eV 2) (eBin kDiv (eBin kMul (eV 2) (eV 2)) (eC (.int 1013))))))
def f__law_mix : DF := mkD 3 b__law_mix
def lp__law_pool_0 : DSt :=
  (sIf (eAnd (eTru (eV 6)) (eBin kGt (eV 5) (eC (.int 0))))
    (sSeq (sDrop (eMth tyL kAppend (eV 2) [(eBin kMod (eArgs [(eV 5)] kInt) (eC (.int 1000003)))])) (sSet 5 (eBin kDiv (eV 5) (eC (.int 1000003)))))
    (sIf (eAnd (eNot (eTru (eV 6))) (eBin kLt (eV 7) (eC (.int 6))))
    (sDrop (eMth tyL kAppend (eV 2) [(eArgs [(eBin kIx (eV 0) (eV 4)), (eV 7)] (kCall f__law_mix))]))
    sNil))
def lp__law_pool_1 : DSt :=
  (sSeq (sSet 3 (eBin kMod (eArgs [(eBin kAdd (eV 3) (eBin kMul (eBin kIx (eV 0) (eV 4)) (eBin kAdd (eV 4) (eC (.int 1)))))] kInt) (eC (.int 1000003)))) (sSeq (sSet 5 (eArgs [(eBin kIx (eV 0) (eV 4))] kAbs)) (sSeq (sSet 6 (eBin kGe (eV 5) (eBin kPow (eC (.int 10)) (eC (.int 18))))) (sFor (iArgs [(eC (.int 60))] kRng1) (gN 7) lp__law_pool_0))))
def lp__law_pool_2 : DSt :=
  (sIf (eBin kLt (eArgs [(eV 2)] kLen) (eV 1))
    (sDrop (eMth tyL kAppend (eV 2) [(eArgs [(eV 3), (eArgs [(eV 2)] kLen)] (kCall f__law_mix))]))
    sNil)
def b__law_pool : DSt :=
  (sSeq (sSet 2 (eArgs [] kLstC)) (sSeq (sSet 3 (eC (.int 0))) (sSeq (sFor (iArgs [(eArgs [(eArgs [(eV 0)] kLen), (eC (.int 63))] kMin)] kRng1) (gN 4) lp__law_pool_1) (sSeq (sFor (iArgs [(eV 1)] kRng1) (gN 7) lp__law_pool_2) (sRet (eV 2))))))
def f__law_pool : DF := mkD 8 b__law_pool
def b__law_draw : DSt :=
  (sSeq (sIf (eBin kEq (eArgs [(eV 0)] kLen) (eC (.int 0)))
    (sRet (eC (.int 0)))
    sNil) (sRet (eBin kMod (eArgs [(eMth tyL kPopAt (eV 0) [(eC (.int 0))])] kInt) (eV 1))))
def f__law_draw : DF := mkD 2 b__law_draw
def lp__law_number_0 : DSt :=
  (sSet 2 (eBin kAdd (eBin kMul (eV 2) (eC (.int 1000003))) (eArgs [(eV 0), (eC (.int 1000003))] (kCall f__law_draw))))
def b__law_number : DSt :=
  (sSeq (sSet 1 (eArgs [(eV 0), (eC (.int 8))] (kCall f__law_draw))) (sSeq (sSet 2 (eArgs [(eV 0), (eC (.int 5))] (kCall f__law_draw))) (sSeq (sIf (eBin kEq (eV 1) (eC (.int 4)))
    (sFor (iArgs [(eC (.int 5))] kRng1) (gN 3) lp__law_number_0)
    sNil) (sRet (eBin kMod (eArgs [(eV 2)] kInt) (eBin kPow (eC (.int 10)) (eC (.int 30))))))))
def f__law_number : DF := mkD 4 b__law_number
def lp__law_word_0 : DSt :=
  (sSet 1 (eBin kAdd (eV 1) (eBin kIx (eC (.str "abcdefghijklmnopqrstuvwxyz")) (eArgs [(eV 0), (eC (.int 26))] (kCall f__law_draw)))))
def b__law_word : DSt :=
  (sSeq (sSet 1 (eC (.str ""))) (sSeq (sFor (iArgs [(eBin kAdd (eC (.int 1)) (eArgs [(eV 0), (eC (.int 12))] (kCall f__law_draw)))] kRng1) (gN 2) lp__law_word_0) (sRet (eV 1))))
def f__law_word : DF := mkD 3 b__law_word
def b__law_bounds : DSt :=
  (sSeq (sSet 1 (eArgs [(eV 0)] (kCall f__law_number))) (sSeq (sSet 2 (eBin kAdd (eV 1) (eArgs [(eV 0)] (kCall f__law_number)))) (sSeq (sIf (eBin kEq (eArgs [(eV 0), (eC (.int 3))] (kCall f__law_draw)) (eC (.int 0)))
    (sRet (eArgs [(eV 1), (eC .non)] kTup))
    sNil) (sRet (eArgs [(eV 1), (eV 2)] kTup)))))
def f__law_bounds : DF := mkD 3 b__law_bounds
def b__law_whole : DSt :=
  (sRet (eAnd (eUn (kIsi i_int) (eV 0)) (eNot (eUn (kIsi i_bool) (eV 0)))))
def f__law_whole : DF := mkD 1 b__law_whole
def el__law_same_0 : DE :=
  (eV 5)
def lp__law_same_1 : DSt :=
  (sSeq (sSet 5 (eBin (kOwnIx c_Core f_Core___getitem__) (eV 0) (eV 4))) (sSeq (sIf (eOr (eNot (eUn (kIsi i_tuple) (eV 5))) (eOr (eBin kNe (eV 5) (eBin kIx (eV 1) (eV 4))) (eNot (eArgs [(eBin kIx (eV 5) (eC (.int 1)))] (kCall f__law_whole)))))
    (sRet (eC (.bl false)))
    sNil) (sSet 3 (eBin kAdd (eV 3) (eBin kIx (eBin kIx (eV 1) (eV 4)) (eC (.int 1)))))))
def lp__law_same_2 : DSt :=
  (sSeq (sSet 6 (eMth (isC c_Core) (kMeth f_Core_joint) (eV 0) [(eV 4)])) (sSeq (sIf (eOr (eNot (eUn (kIsi i_tuple) (eV 6))) (eOr (eBin kNe (eV 6) (eBin kIx (eV 2) (eV 4))) (eNot (eArgs [(eBin kIx (eV 6) (eC (.int 0)))] (kCall f__law_whole)))))
    (sRet (eC (.bl false)))
    sNil) (sIf (eAnd (eBin (kIsN true) (eBin kIx (eV 6) (eC (.int 1))) (eC .non)) (eNot (eArgs [(eBin kIx (eV 6) (eC (.int 1)))] (kCall f__law_whole))))
    (sRet (eC (.bl false)))
    sNil)))
def b__law_same : DSt :=
  (sSeq (sIf (eOr (eNot (eUn (kIsi i_Core) (eV 0))) (eBin kNe (eUn (kLenO c_Core f_Core___len__) (eV 0)) (eArgs [(eV 1)] kLen)))
    (sRet (eC (.bl false)))
    sNil) (sSeq (sIf (eBin kNe (eSettle (eLcC [5] (iExp (eV 0) (itO c_Core 0)) (gN 5) (eC (.bl true)) el__law_same_0)) (eV 1))
    (sRet (eC (.bl false)))
    sNil) (sSeq (sSet 3 (eC (.int 0))) (sSeq (sFor (iArgs [(eArgs [(eV 1)] kLen)] kRng1) (gN 4) lp__law_same_1) (sSeq (sFor (iArgs [(eArgs [(eV 2)] kLen)] kRng1) (gN 4) lp__law_same_2) (sRet (eAnd (eArgs [(eUn (kProp c_Core f_Core_thickness) (eV 0))] (kCall f__law_whole)) (eBin kEq (eUn (kProp c_Core f_Core_thickness) (eV 0)) (eV 3)))))))))
def f__law_same : DF := mkD 7 b__law_same
def b__law_odd_layer : DSt :=
  (sSeq (sSet 1 (eArgs [(eArgs [(eC (.str "")), (eC (.int 1))] kTup), (eArgs [(eC (.str "abcdefghijklm")), (eC (.int 1))] kTup), (eArgs [(eC (.str "Clay")), (eC (.int 2))] kTup), (eArgs [(eC (.str "cl4y")), (eC (.int 2))] kTup), (eArgs [(eC (.str "cl y")), (eC (.int 2))] kTup), (eArgs [(eC (.str "clay")), (eC (.int 0))] kTup), (eArgs [(eC (.str "clay")), (eUn kNeg (eC (.int 1)))] kTup)] kLst)) (sSeq (sSet 1 (eBin kAdd (eV 1) (eArgs [(eArgs [(eC (.str "clay")), (eUn kNeg (eBin kPow (eC (.int 10)) (eC (.int 30))))] kTup), (eArgs [(eC (.str "abcdefghijkl")), (eC (.int 1))] kTup), (eArgs [(eC (.str "z")), (eBin kPow (eC (.int 10)) (eC (.int 30)))] kTup), (eArgs [(eC (.str "a")), (eC (.int 1))] kTup), (eArgs [(eC (.str "")), (eC (.int 0))] kTup)] kLst))) (sRet (eBin kIx (eV 1) (eBin kMod (eArgs [(eV 0)] kInt) (eC (.int 12)))))))
def f__law_odd_layer : DF := mkD 2 b__law_odd_layer
def b__law_odd_joint : DSt :=
  (sSeq (sSet 1 (eArgs [(eArgs [(eUn kNeg (eC (.int 1))), (eC .non)] kTup), (eArgs [(eC (.int 3)), (eC (.int 2))] kTup), (eArgs [(eC (.int 0)), (eC (.int 0))] kTup), (eArgs [(eC (.int 5)), (eC (.int 5))] kTup), (eArgs [(eUn kNeg (eC (.int 2))), (eUn kNeg (eC (.int 1)))] kTup), (eArgs [(eC (.int 0)), (eUn kNeg (eC (.int 1)))] kTup), (eArgs [(eBin kPow (eC (.int 10)) (eC (.int 30))), (eBin kSub (eBin kPow (eC (.int 10)) (eC (.int 30))) (eC (.int 1)))] kTup), (eArgs [(eC (.int 1)), (eC (.int 0))] kTup), (eArgs [(eC (.int 0)), (eC .non)] kTup)] kLst)) (sRet (eBin kIx (eV 1) (eBin kMod (eArgs [(eV 0)] kInt) (eC (.int 9))))))
def f__law_odd_joint : DF := mkD 2 b__law_odd_joint
def lp__law_valid_0 : DSt :=
  (sIf (eBin (kInS true) (eV 1) (eC (.str "abcdefghijklmnopqrstuvwxyz")))
    (sRet (eC (.bl false)))
    sNil)
def b__law_valid : DSt :=
  (sSeq (sIf (eOr (eNot (eChain kLe kLe (eC (.int 1)) (eArgs [(eBin kIx (eV 0) (eC (.int 0)))] kLen) (eC (.int 12)))) (eBin kLt (eBin kIx (eV 0) (eC (.int 1))) (eC (.int 1))))
    (sRet (eC (.bl false)))
    sNil) (sSeq (sFor (iExp (eBin kIx (eV 0) (eC (.int 0))) itS) (gN 1) lp__law_valid_0) (sRet (eC (.bl true)))))
def f__law_valid : DF := mkD 2 b__law_valid
def lp__law_due_0 : DSt :=
  (sIf (eNot (eArgs [(eBin kIx (eV 0) (eV 2))] (kCall f__law_valid)))
    (sRet (eArgs [(eC (.str "layer")), (eV 2)] kTup))
    sNil)
def lp__law_due_1 : DSt :=
  (sIf (eOr (eBin kLt (eBin kIx (eBin kIx (eV 1) (eV 2)) (eC (.int 0))) (eC (.int 0))) (eAnd (eBin (kIsN true) (eBin kIx (eBin kIx (eV 1) (eV 2)) (eC (.int 1))) (eC .non)) (eBin kLt (eBin kIx (eBin kIx (eV 1) (eV 2)) (eC (.int 1))) (eBin kIx (eBin kIx (eV 1) (eV 2)) (eC (.int 0))))))
    (sRet (eArgs [(eC (.str "joint")), (eV 2)] kTup))
    sNil)
def b__law_due : DSt :=
  (sSeq (sIf (eBin kGt (eArgs [(eV 0)] kLen) (eC (.int 20)))
    (sRet (eArgs [(eC (.str "core")), (eC (.int 0))] kTup))
    sNil) (sSeq (sFor (iArgs [(eArgs [(eV 0)] kLen)] kRng1) (gN 2) lp__law_due_0) (sSeq (sIf (eBin (kIsN false) (eV 1) (eC .non))
    (sRet (eArgs [(eC (.str "made")), (eC (.int 0))] kTup))
    sNil) (sSeq (sIf (eBin kNe (eArgs [(eV 1)] kLen) (eBin kAdd (eArgs [(eV 0)] kLen) (eC (.int 1))))
    (sRet (eArgs [(eC (.str "core")), (eC (.int 0))] kTup))
    sNil) (sSeq (sFor (iArgs [(eArgs [(eV 1)] kLen)] kRng1) (gN 2) lp__law_due_1) (sRet (eArgs [(eC (.str "made")), (eC (.int 0))] kTup)))))))
def f__law_due : DF := mkD 3 b__law_due
def b__law_got : DSt :=
  (sSeq (sTryM 5 [(x_BadLayer, some 2,
    (sRet (eArgs [(eC (.str "layer")), (eUn (kXf [1, 2, 3, 4] 0) (eV 2))] kTup))), (x_BadJoint, some 2,
    (sRet (eArgs [(eC (.str "joint")), (eUn (kXf [1, 2, 3, 4] 0) (eV 2))] kTup))), (x_BadCore, none,
    (sRet (eArgs [(eC (.str "core")), (eC (.int 0))] kTup)))]
    (sIf (eBin (kIsN false) (eV 1) (eC .non))
    (sDrop (eArgs [(eArgs [(eV 0)] kListI)] (kMakeN c_Core 2 f_Core___init__)))
    (sDrop (eArgs [(eArgs [(eV 0)] kListI), (eArgs [(eV 1)] kListI)] (kMake c_Core 2 f_Core___init__))))) (sRet (eArgs [(eC (.str "made")), (eC (.int 0))] kTup)))
def f__law_got : DF := mkD 3 b__law_got
def b__law_base : DSt :=
  (sSeq (sTry 5 x_SiltError (some 3)
    (sDrop (eArgs [(eV 0), (eV 1)] (kMake c_Core 2 f_Core___init__)))
    (sSeq (sIf (eOr (eBin kNe (eUn (kIsE (fun c => some (x_BadLayer c))) (eV 3)) (eBin kEq (eV 2) (eC (.str "layer")))) (eBin kNe (eUn (kIsE (fun c => some (x_BadJoint c))) (eV 3)) (eBin kEq (eV 2) (eC (.str "joint")))))
    (sRet (eC (.bl false)))
    sNil) (sRet (eAnd (eUn (kIsE (fun c => some (x_BadCore c))) (eV 3)) (eUn (kIsE (fun c => some (x_ValueError c))) (eV 3)))))) (sRet (eC (.bl false))))
def f__law_base : DF := mkD 4 b__law_base
def b__law_char : DSt :=
  (sSeq (sSet 1 (eC (.str " !\"#$&'()*+,-./0123456789:;<=>?@ABCDEFGHIJKLMNOPQRSTUVWXYZ[\\]^_`"))) (sSeq (sSet 1 (eBin kAdd (eV 1) (eC (.str "abcdefghijklmnopqrstuvwxyz{|}~")))) (sRet (eBin kIx (eV 1) (eBin kMod (eArgs [(eV 0)] kInt) (eC (.int 94)))))))
def f__law_char : DF := mkD 2 b__law_char
def lp__law_signs_0 : DSt :=
  (sSeq (sSet 5 (eArgs [(eBin kAdd (eBin kAdd (eSlice (eV 1) none (some (eV 4))) (eV 3)) (eSlice (eV 1) (some (eV 4)) none)), (eC (.int 1))] kTup)) (sSeq (sSet 6 (eArgs [(eC (.str "layer")), (eC (.int 0))] kTup)) (sSeq (sIf (eArgs [(eV 5)] (kCall f__law_valid))
    (sSet 6 (eArgs [(eC (.str "made")), (eC (.int 0))] kTup))
    sNil) (sIf (eBin kNe (eArgs [(eArgs [(eV 5)] kLst), (eC .non)] (kCall f__law_got)) (eV 6))
    (sRet (eC (.bl false)))
    sNil))))
def lp__law_signs_1 : DSt :=
  (sFor (iExp (eArgs [(eC (.int 0)), (eV 2), (eArgs [(eV 1)] kLen)] kLst) itL) (gN 4) lp__law_signs_0)
def b__law_signs : DSt :=
  (sSeq (sSet 2 (eArgs [(eV 0), (eBin kAdd (eArgs [(eV 1)] kLen) (eC (.int 1)))] (kCall f__law_draw))) (sSeq (sFor (iExp (eArgs [(eC (.str " ")), (eC (.str "-")), (eC (.str "_")), (eArgs [(eArgs [(eV 0), (eC (.int 94))] (kCall f__law_draw))] (kCall f__law_char))] kLst) itL) (gN 3) lp__law_signs_1) (sRet (eC (.bl true)))))
def f__law_signs : DF := mkD 7 b__law_signs
def el__law_counts_0 : DE :=
  (eArgs [(eV 6), (eC (.int 1))] kTup)
def lp__law_counts_1 : DSt :=
  (sIf (eBin kNe (eArgs [(eV 2), (eBin kRepL (eArgs [(eArgs [(eC (.int 0)), (eC .non)] kTup)] kLst) (eV 3))] (kCall f__law_got)) (eArgs [(eC (.str "core")), (eC (.int 0))] kTup))
    (sRet (eC (.bl false)))
    sNil)
def lp__law_counts_2 : DSt :=
  (sSeq (sIf (eBin kNe (eArgs [(eArgs [] kLst), (eArgs [(eV 5)] kLst)] (kCall f__law_got)) (eArgs [(eC (.str "joint")), (eC (.int 0))] kTup))
    (sRet (eC (.bl false)))
    sNil) (sIf (eBin kNe (eArgs [(eV 2), (eBin kAdd (eBin kRepL (eArgs [(eArgs [(eC (.int 0)), (eC .non)] kTup)] kLst) (eC (.int 3))) (eArgs [(eV 5)] kLst))] (kCall f__law_got)) (eArgs [(eC (.str "joint")), (eC (.int 3))] kTup))
    (sRet (eC (.bl false)))
    sNil))
def b__law_counts : DSt :=
  (sSeq (sSet 2 (eSettle (eLcC [6] (iExp (eV 1) itL) (gN 6) (eC (.bl true)) el__law_counts_0))) (sSeq (sFor (iExp (eArgs [(eC (.int 0)), (eC (.int 1)), (eC (.int 2)), (eC (.int 3)), (eC (.int 5)), (eC (.int 6)), (eC (.int 24))] kLst) itL) (gN 3) lp__law_counts_1) (sSeq (sSet 4 (eBin kSub (eUn kNeg (eC (.int 1))) (eArgs [(eV 0)] (kCall f__law_number)))) (sSeq (sFor (iExp (eArgs [(eArgs [(eV 4), (eArgs [(eV 0)] (kCall f__law_number))] kTup), (eArgs [(eV 4), (eC (.int 0))] kTup), (eArgs [(eV 4), (eUn kNeg (eV 4))] kTup)] kLst) itL) (gN 5) lp__law_counts_2) (sRet (eC (.bl true)))))))
def f__law_counts : DF := mkD 7 b__law_counts
def el__law_many_0 : DE :=
  (eArgs [(eV 7), (eC (.int 1))] kTup)
def el__law_many_1 : DE :=
  (eArgs [(eV 7), (eC (.int 1))] kTup)
def b__law_many : DSt :=
  (sSeq (sSet 1 (eBin kIx (eV 0) (eC (.int 0)))) (sSeq (sSet 2 (eBin kIx (eV 0) (eC (.int 1)))) (sSeq (sSet 3 (eBin kIx (eV 0) (eC (.int 2)))) (sSeq (sIf (eNot (eArgs [(eArgs [(eV 3)] (kCall f_bare_core)), (eArgs [(eArgs [(eV 3), (eC (.int 1))] kTup)] kLst), (eBin kRepL (eArgs [(eArgs [(eC (.int 0)), (eC .non)] kTup)] kLst) (eC (.int 2)))] (kCall f__law_same)))
    (sRet (eC (.bl false)))
    sNil) (sSeq (sSet 4 (eSettle (eLcC [7] (iExp (eArgs [(eV 1), (eV 2), (eV 3), (eV 3), (eV 1), (eV 2), (eV 2)] kLst) itL) (gN 7) (eC (.bl true)) el__law_many_0))) (sSeq (sSet 5 (eArgs [(eV 1), (eV 2), (eV 3), (eV 3), (eV 1), (eV 2), (eV 2)] (kCall f_bare_core))) (sSeq (sIf (eNot (eArgs [(eV 5), (eV 4), (eBin kRepL (eArgs [(eArgs [(eC (.int 0)), (eC .non)] kTup)] kLst) (eC (.int 8)))] (kCall f__law_same)))
    (sRet (eC (.bl false)))
    sNil) (sSeq (sSet 4 (eSettle (eLcC [7] (iExp (eBin kRepL (eArgs [(eV 1), (eV 2)] kLst) (eC (.int 10))) itL) (gN 7) (eC (.bl true)) el__law_many_1))) (sSeq (sSet 5 (eArgs [(eV 1), (eV 2), (eV 1), (eV 2), (eV 1), (eV 2), (eV 1), (eV 2), (eV 1), (eV 2), (eV 1), (eV 2), (eV 1), (eV 2), (eV 1), (eV 2), (eV 1), (eV 2), (eV 1), (eV 2)] (kCall f_bare_core))) (sSeq (sIf (eNot (eArgs [(eV 5), (eV 4), (eBin kRepL (eArgs [(eArgs [(eC (.int 0)), (eC .non)] kTup)] kLst) (eC (.int 21)))] (kCall f__law_same)))
    (sRet (eC (.bl false)))
    sNil) (sSeq (sTry 5 x_BadCore (some 6)
    (sDrop (eArgs [(eV 1), (eV 2), (eV 1), (eV 2), (eV 1), (eV 2), (eV 1), (eV 2), (eV 1), (eV 2), (eV 1), (eV 2), (eV 1), (eV 2), (eV 1), (eV 2), (eV 1), (eV 2), (eV 1), (eV 2), (eV 3)] (kCall f_bare_core)))
    (sRet (eAnd (eNot (eUn (kIsE (fun c => some (x_BadLayer c))) (eV 6))) (eNot (eUn (kIsE (fun c => some (x_BadJoint c))) (eV 6)))))) (sRet (eC (.bl false))))))))))))))
def f__law_many : DF := mkD 8 b__law_many
def el__law_open_0 : DE :=
  (eArgs [(eV 5), (eC (.int 1))] kTup)
def b__law_open : DSt :=
  (sSeq (sSet 1 (eSettle (eLcC [5] (iExp (eV 0) itL) (gN 5) (eC (.bl true)) el__law_open_0))) (sSeq (sSet 2 (eArgs [(eBin kIx (eV 0) (eC (.int 0))), (eBin kIx (eV 0) (eC (.int 1)))] (kCall f_bare_core))) (sSeq (sSet 3 (eArgs [(eSlice (eV 1) none (some (eC (.int 2)))), (eBin kRepL (eArgs [(eArgs [(eC (.int 0)), (eC .non)] kTup)] kLst) (eC (.int 3)))] (kMake c_Core 2 f_Core___init__))) (sSeq (sIf (eOr (eBin (kIsB true) (eBin (kOwn c_Core f_Core___eq__) (eV 2) (eV 3)) (eC (.bl true))) (eBin (kIsB true) (eBin (kOwn c_Core f_Core___eq__) (eV 3) (eV 2)) (eC (.bl true))))
    (sRet (eC (.bl false)))
    sNil) (sSeq (sIf (eBin kNe (eMth (isC c_Core) (kMeth f_Core_written) (eV 2) []) (eMth (isC c_Core) (kMeth f_Core_written) (eV 3) []))
    (sRet (eC (.bl false)))
    sNil) (sSeq (sIf (eOr (eNot (eArgs [(eBin (kOwn c_Core f_Core___add__) (eV 2) (eArgs [(eSlice (eV 1) (some (eC (.int 2))) none)] (kMakeN c_Core 2 f_Core___init__))), (eV 1), (eBin kRepL (eArgs [(eArgs [(eC (.int 0)), (eC .non)] kTup)] kLst) (eC (.int 4)))] (kCall f__law_same))) (eNot (eArgs [(eBin (kOwn c_Core f_Core___add__) (eArgs [(eArgs [] kLst)] (kMakeN c_Core 2 f_Core___init__)) (eV 3)), (eSlice (eV 1) none (some (eC (.int 2)))), (eBin kRepL (eArgs [(eArgs [(eC (.int 0)), (eC .non)] kTup)] kLst) (eC (.int 3)))] (kCall f__law_same))))
    (sRet (eC (.bl false)))
    sNil) (sSeq (sSet 4 (eUn kRevV (eSlice (eV 1) none (some (eC (.int 2)))))) (sSeq (sIf (eOr (eNot (eArgs [(eUn (kOwn1 c_Core f_Core___invert__) (eV 2)), (eV 4), (eBin kRepL (eArgs [(eArgs [(eC (.int 0)), (eC .non)] kTup)] kLst) (eC (.int 3)))] (kCall f__law_same))) (eNot (eArgs [(eMth (isC c_Core) (kMeth f_Core_turned) (eV 2) [(eC (.int 0)), (eC (.int 2))]), (eV 4), (eBin kRepL (eArgs [(eArgs [(eC (.int 0)), (eC .non)] kTup)] kLst) (eC (.int 3)))] (kCall f__law_same))))
    (sRet (eC (.bl false)))
    sNil) (sRet (eArgs [(eMthK c_Core f_Core_narrowed G_Core_narrowed_1_least_most (eV 2) [(eC (.int 1))] [(eC (.int 1)), (eC (.int 4))]), (eSlice (eV 1) none (some (eC (.int 2)))), (eArgs [(eArgs [(eC (.int 0)), (eC .non)] kTup), (eArgs [(eC (.int 1)), (eC (.int 4))] kTup), (eArgs [(eC (.int 0)), (eC .non)] kTup)] kLst)] (kCall f__law_same)))))))))))
def f__law_open : DF := mkD 6 b__law_open
def el__law_bare_0 : DE :=
  (eArgs [(eV 3), (eC (.int 1))] kTup)
def b__law_bare : DSt :=
  (sSeq (sSet 1 (eSettle (eLcC [3] (iExp (eV 0) itL) (gN 3) (eC (.bl true)) el__law_bare_0))) (sSeq (sIf (eNot (eArgs [(eArgs [(eBin kIx (eV 0) (eC (.int 0))), (eBin kIx (eV 0) (eC (.int 1))), (eBin kIx (eV 0) (eC (.int 2)))] (kCall f_bare_core)), (eV 1), (eBin kRepL (eArgs [(eArgs [(eC (.int 0)), (eC .non)] kTup)] kLst) (eC (.int 4)))] (kCall f__law_same)))
    (sRet (eC (.bl false)))
    sNil) (sSeq (sTry 5 x_BadLayer (some 2)
    (sDrop (eArgs [(eBin kIx (eV 0) (eC (.int 0))), (eBin kAdd (eC (.str "B")) (eBin kIx (eV 0) (eC (.int 1)))), (eBin kIx (eV 0) (eC (.int 2)))] (kCall f_bare_core)))
    (sRet (eAnd (eArgs [(eUn (kXf [1, 2, 3, 4] 0) (eV 2))] (kCall fh__law_whole)) (eAnd (eBin kEq (eUn (kXf [1, 2, 3, 4] 0) (eV 2)) (eC (.int 1))) (eArgs [(kCallH0 fh_bare_core), (eArgs [] kLst), (eArgs [(eArgs [(eC (.int 0)), (eC .non)] kTup)] kLst)] (kCall fh__law_same)))))) (sRet (eC (.bl false))))))
def f__law_bare : DF := mkD 4 b__law_bare
def el_law_0 : DE :=
  (eArgs [(eArgs [(eV 1)] (kCall f__law_word)), (eBin kAdd (eC (.int 1)) (eArgs [(eV 1)] (kCall f__law_number)))] kTup)
def el_law_1 : DE :=
  (eArgs [(eV 1)] (kCall f__law_bounds))
def lp_law_2 : DSt :=
  (sIf (eBin kGt (eArgs [(eV 3)] kLen) (eC (.int 0)))
    (sSetIx (eV 3) (eArgs [(eV 1), (eV 2)] (kCall f__law_draw)) (eArgs [(eArgs [(eV 1), (eC (.int 12))] (kCall f__law_draw))] (kCall f__law_odd_layer)))
    sNil)
def lp_law_3 : DSt :=
  (sIf (eBin kGt (eArgs [(eV 4)] kLen) (eC (.int 0)))
    (sSetIx (eV 4) (eArgs [(eV 1), (eArgs [(eV 4)] kLen)] (kCall f__law_draw)) (eArgs [(eArgs [(eV 1), (eC (.int 9))] (kCall f__law_draw))] (kCall f__law_odd_joint)))
    sNil)
def el_law_4 : DE :=
  (eArgs [(eV 1)] (kCall f__law_word))
def lp_law_5 : DSt :=
  (sIf (eNot (eArgs [(eV 12), (eV 3), (eV 4)] (kCall f__law_same)))
    (sRet (eC (.bl false)))
    sNil)
def b_law : DSt :=
  (sSeq (sSet 1 (eArgs [(eV 0), (eC (.int 500))] (kCall f__law_pool))) (sSeq (sSet 2 (eArgs [(eV 1), (eBin kIx (eArgs [(eC (.int 4)), (eC (.int 23))] kLst) (eArgs [(eV 1), (eC (.int 2))] (kCall f__law_draw)))] (kCall f__law_draw))) (sSeq (sSet 3 (eLcC [13] (iArgs [(eV 2)] kRng1) (gN 13) (eC (.bl true)) el_law_0)) (sSeq (sSet 4 (eLcC [13] (iArgs [(eBin kAdd (eV 2) (eBin kIx (eArgs [(eC (.int 1)), (eC (.int 1)), (eC (.int 1)), (eC (.int 0)), (eC (.int 2))] kLst) (eArgs [(eV 1), (eC (.int 5))] (kCall f__law_draw))))] kRng1) (gN 13) (eC (.bl true)) el_law_1)) (sSeq (sFor (iArgs [(eArgs [(eV 1), (eC (.int 3))] (kCall f__law_draw))] kRng1) (gN 5) lp_law_2) (sSeq (sFor (iArgs [(eArgs [(eV 1), (eC (.int 3))] (kCall f__law_draw))] kRng1) (gN 5) lp_law_3) (sSeq (sIf (eBin kEq (eArgs [(eV 1), (eC (.int 4))] (kCall f__law_draw)) (eC (.int 0)))
    (sSet 4 (eC .non))
    sNil) (sSeq (sSet 6 (eSettle (eLcC [13] (iArgs [(eC (.int 3))] kRng1) (gN 13) (eC (.bl true)) el_law_4))) (sSeq (sIf (eOr (eNot (eArgs [(eC (.int 20))] (kCall f__law_whole))) (eOr (eBin kNe (eC (.int 20)) (eC (.int 20))) (eNot (eArgs [(eV 6)] (kCall f__law_bare)))))
    (sRet (eC (.bl false)))
    sNil) (sSeq (sIf (eOr (eNot (eArgs [(eV 6)] (kCall f__law_many))) (eOr (eNot (eArgs [(eV 6)] (kCall f__law_open))) (eNot (eArgs [(eV 1), (eV 6)] (kCall f__law_counts)))))
    (sRet (eC (.bl false)))
    sNil) (sSeq (sIf (eNot (eArgs [(eV 1), (eBin kIx (eV 6) (eC (.int 0)))] (kCall f__law_signs)))
    (sRet (eC (.bl false)))
    sNil) (sSeq (frzO 4 (frz 3 (sSet 7 (eArgs [(eV 3), (eV 4)] (kCall f__law_due))))) (sSeq (sSet 8 (eArgs [(eV 3), (eV 4)] (kCall f__law_got))) (sSeq (sIf (eOr (eBin kNe (eV 8) (eV 7)) (eNot (eArgs [(eBin kIx (eV 8) (eC (.int 1)))] (kCall f__law_whole))))
    (sRet (eC (.bl false)))
    sNil) (sSeq (sIf (eBin kNe (eBin kIx (eV 7) (eC (.int 0))) (eC (.str "made")))
    (sRet (eArgs [(eV 3), (eV 4), (eBin kIx (eV 7) (eC (.int 0)))] (kCall f__law_base)))
    sNil) (sSeq (sSet 9 (eArgs [(eV 3)] kListC)) (sSeq (sIf (eBin (kIsN false) (eV 4) (eC .non))
    (sSeq (sSet 10 (eArgs [(eArgs [(eV 9)] (kMakeN c_Core 2 f_Core___init__)), (eArgs [(eV 9), (eC .non)] (kMake c_Core 2 f_Core___init__)), (eArgs [(eV 9), (eC .non)] (kMakeQ c_Core 2 f_Core___init__))] kLst)) (sSet 4 (eBin kRepL (eArgs [(eArgs [(eC (.int 0)), (eC .non)] kTup)] kLst) (eBin kAdd (eV 2) (eC (.int 1))))))
    (sSeq (sSet 11 (eArgs [(eV 4)] kListC)) (sSeq (sSet 10 (eArgs [(eArgs [(eV 9), (eV 11)] (kMake c_Core 2 f_Core___init__)), (eArgs [(eV 9), (eV 11)] (kMakeQ c_Core 2 f_Core___init__))] kLst)) (sSeq (sIf (eBin kNe (eV 11) (eV 4))
    (sRet (eC (.bl false)))
    sNil) (sSeq (sSetIx (eV 11) (eC (.int 0)) (eArgs [(eC (.int 8)), (eC (.int 9))] kTup)) (sDrop (eMth tyL kAppend (eV 11) [(eArgs [(eC (.int 1)), (eC (.int 2))] kTup)]))))))) (sSeq (sIf (eBin kNe (eV 9) (eV 3))
    (sRet (eC (.bl false)))
    sNil) (sSeq (sDrop (eMth tyL kAppend (eV 9) [(eArgs [(eC (.str "zz")), (eC (.int 5))] kTup)])) (sSeq (sSetIx (eV 9) (eC (.int 0)) (eArgs [(eC (.str "zz")), (eC (.int 7))] kTup)) (sSeq (sFor (iExp (eV 10) itL) (gN 12) lp_law_5) (sRet (eC (.bl true))))))))))))))))))))))))
def f_law : DF := mkD 14 b_law
end
end ZZ
set_option Elab.async false
set_option linter.all false
set_option maxRecDepth 100000
set_option maxHeartbeats 4000000
namespace ZZ
open PySem PySem.Spec L2 L2H
theorem sc_Core___iter__ : FnScope ["self"] ["self"] (defScope s_Core___iter__) := ⟨rfl, rfl, rfl, by decide +kernel, rfl, by decide +kernel, by decide +kernel⟩
theorem sc_BadLayer___init__ : FnScope ["self", "index"] ["self", "index"] (defScope s_BadLayer___init__) := ⟨rfl, rfl, rfl, by decide +kernel, rfl, by decide +kernel, by decide +kernel⟩
theorem sc_BadJoint___init__ : FnScope ["self", "index"] ["self", "index"] (defScope s_BadJoint___init__) := ⟨rfl, rfl, rfl, by decide +kernel, rfl, by decide +kernel, by decide +kernel⟩
theorem sc_NoLayer___init__ : FnScope ["self", "index"] ["self", "index"] (defScope s_NoLayer___init__) := ⟨rfl, rfl, rfl, by decide +kernel, rfl, by decide +kernel, by decide +kernel⟩
theorem sc_NoJoint___init__ : FnScope ["self", "index"] ["self", "index"] (defScope s_NoJoint___init__) := ⟨rfl, rfl, rfl, by decide +kernel, rfl, by decide +kernel, by decide +kernel⟩
theorem sc_is_layer : FnScope n_is_layer ["layer"] (defScope s_is_layer) := ⟨rfl, rfl, rfl, by decide +kernel, rfl, by decide +kernel, by decide +kernel⟩
theorem sc_is_joint : FnScope n_is_joint ["joint"] (defScope s_is_joint) := ⟨rfl, rfl, rfl, by decide +kernel, rfl, by decide +kernel, by decide +kernel⟩
theorem sc_written_layer : FnScope n_written_layer ["layer"] (defScope s_written_layer) := ⟨rfl, rfl, rfl, by decide +kernel, rfl, by decide +kernel, by decide +kernel⟩
theorem sc_written_joint : FnScope n_written_joint ["joint"] (defScope s_written_joint) := ⟨rfl, rfl, rfl, by decide +kernel, rfl, by decide +kernel, by decide +kernel⟩
theorem sc_joined_joint : FnScope n_joined_joint ["lower", "upper"] (defScope s_joined_joint) := ⟨rfl, rfl, rfl, by decide +kernel, rfl, by decide +kernel, by decide +kernel⟩
theorem sc_Core___init__ : FnScope n_Core___init__ ["self", "layers", "joints"] (defScope s_Core___init__) := ⟨rfl, rfl, rfl, by decide +kernel, rfl, by decide +kernel, by decide +kernel⟩
theorem sc_Core___len__ : FnScope n_Core___len__ ["self"] (defScope s_Core___len__) := ⟨rfl, rfl, rfl, by decide +kernel, rfl, by decide +kernel, by decide +kernel⟩
theorem sc_Core___getitem__ : FnScope n_Core___getitem__ ["self", "k"] (defScope s_Core___getitem__) := ⟨rfl, rfl, rfl, by decide +kernel, rfl, by decide +kernel, by decide +kernel⟩
theorem sc_Core___eq__ : FnScope n_Core___eq__ ["self", "other"] (defScope s_Core___eq__) := ⟨rfl, rfl, rfl, by decide +kernel, rfl, by decide +kernel, by decide +kernel⟩
theorem sc_Core_joint : FnScope n_Core_joint ["self", "k"] (defScope s_Core_joint) := ⟨rfl, rfl, rfl, by decide +kernel, rfl, by decide +kernel, by decide +kernel⟩
theorem sc_Core_thickness : FnScope n_Core_thickness ["self"] (defScope s_Core_thickness) := ⟨rfl, rfl, rfl, by decide +kernel, rfl, by decide +kernel, by decide +kernel⟩
theorem sc_Core_written : FnScope n_Core_written ["self"] (defScope s_Core_written) := ⟨rfl, rfl, rfl, by decide +kernel, rfl, by decide +kernel, by decide +kernel⟩
theorem sc_Core___add__ : FnScope n_Core___add__ ["self", "other"] (defScope s_Core___add__) := ⟨rfl, rfl, rfl, by decide +kernel, rfl, by decide +kernel, by decide +kernel⟩
theorem sc_Core___invert__ : FnScope n_Core___invert__ ["self"] (defScope s_Core___invert__) := ⟨rfl, rfl, rfl, by decide +kernel, rfl, by decide +kernel, by decide +kernel⟩
theorem sc_Core_turned : FnScope n_Core_turned ["self", "first", "last"] (defScope s_Core_turned) := ⟨rfl, rfl, rfl, by decide +kernel, rfl, by decide +kernel, by decide +kernel⟩
theorem sc_Core_narrowed : FnScope n_Core_narrowed ["self", "joint", "least", "most"] (defScope s_Core_narrowed) := ⟨rfl, rfl, rfl, by decide +kernel, rfl, by decide +kernel, by decide +kernel⟩
theorem sc_bare_core : FnScope n_bare_core ["kinds"] (defScope s_bare_core) := ⟨rfl, rfl, rfl, by decide +kernel, rfl, by decide +kernel, by decide +kernel⟩
theorem sc__law_mix : FnScope n__law_mix ["_law_cell", "_law_turn"] (defScope s__law_mix) := ⟨rfl, rfl, rfl, by decide +kernel, rfl, by decide +kernel, by decide +kernel⟩
theorem sc__law_pool : FnScope n__law_pool ["_law_script", "_law_many_here"] (defScope s__law_pool) := ⟨rfl, rfl, rfl, by decide +kernel, rfl, by decide +kernel, by decide +kernel⟩
theorem sc__law_draw : FnScope n__law_draw ["_law_pool_here", "_law_bound"] (defScope s__law_draw) := ⟨rfl, rfl, rfl, by decide +kernel, rfl, by decide +kernel, by decide +kernel⟩
theorem sc__law_number : FnScope n__law_number ["_law_pool_here"] (defScope s__law_number) := ⟨rfl, rfl, rfl, by decide +kernel, rfl, by decide +kernel, by decide +kernel⟩
theorem sc__law_word : FnScope n__law_word ["_law_pool_here"] (defScope s__law_word) := ⟨rfl, rfl, rfl, by decide +kernel, rfl, by decide +kernel, by decide +kernel⟩
theorem sc__law_bounds : FnScope n__law_bounds ["_law_pool_here"] (defScope s__law_bounds) := ⟨rfl, rfl, rfl, by decide +kernel, rfl, by decide +kernel, by decide +kernel⟩
theorem sc__law_whole : FnScope n__law_whole ["_law_number_here"] (defScope s__law_whole) := ⟨rfl, rfl, rfl, by decide +kernel, rfl, by decide +kernel, by decide +kernel⟩
theorem sc__law_same : FnScope n__law_same ["_law_core", "_law_layers", "_law_joints"] (defScope s__law_same) := ⟨rfl, rfl, rfl, by decide +kernel, rfl, by decide +kernel, by decide +kernel⟩
theorem sc__law_odd_layer : FnScope n__law_odd_layer ["_law_number_here"] (defScope s__law_odd_layer) := ⟨rfl, rfl, rfl, by decide +kernel, rfl, by decide +kernel, by decide +kernel⟩
theorem sc__law_odd_joint : FnScope n__law_odd_joint ["_law_number_here"] (defScope s__law_odd_joint) := ⟨rfl, rfl, rfl, by decide +kernel, rfl, by decide +kernel, by decide +kernel⟩
theorem sc__law_valid : FnScope n__law_valid ["_law_layer"] (defScope s__law_valid) := ⟨rfl, rfl, rfl, by decide +kernel, rfl, by decide +kernel, by decide +kernel⟩
theorem sc__law_due : FnScope n__law_due ["_law_layers", "_law_joints"] (defScope s__law_due) := ⟨rfl, rfl, rfl, by decide +kernel, rfl, by decide +kernel, by decide +kernel⟩
theorem sc__law_got : FnScope n__law_got ["_law_layers", "_law_joints"] (defScope s__law_got) := ⟨rfl, rfl, rfl, by decide +kernel, rfl, by decide +kernel, by decide +kernel⟩
theorem sc__law_base : FnScope n__law_base ["_law_layers", "_law_joints", "_law_word_here"] (defScope s__law_base) := ⟨rfl, rfl, rfl, by decide +kernel, rfl, by decide +kernel, by decide +kernel⟩
theorem sc__law_char : FnScope n__law_char ["_law_number_here"] (defScope s__law_char) := ⟨rfl, rfl, rfl, by decide +kernel, rfl, by decide +kernel, by decide +kernel⟩
theorem sc__law_signs : FnScope n__law_signs ["_law_pool_here", "_law_kind"] (defScope s__law_signs) := ⟨rfl, rfl, rfl, by decide +kernel, rfl, by decide +kernel, by decide +kernel⟩
theorem sc__law_counts : FnScope n__law_counts ["_law_pool_here", "_law_kinds"] (defScope s__law_counts) := ⟨rfl, rfl, rfl, by decide +kernel, rfl, by decide +kernel, by decide +kernel⟩
theorem sc__law_many : FnScope n__law_many ["_law_kinds"] (defScope s__law_many) := ⟨rfl, rfl, rfl, by decide +kernel, rfl, by decide +kernel, by decide +kernel⟩
theorem sc__law_open : FnScope n__law_open ["_law_kinds"] (defScope s__law_open) := ⟨rfl, rfl, rfl, by decide +kernel, rfl, by decide +kernel, by decide +kernel⟩
theorem sc__law_bare : FnScope n__law_bare ["_law_kinds"] (defScope s__law_bare) := ⟨rfl, rfl, rfl, by decide +kernel, rfl, by decide +kernel, by decide +kernel⟩
theorem sc_law : FnScope n_law ["_law_script"] (defScope s_law) := ⟨rfl, rfl, rfl, by decide +kernel, rfl, by decide +kernel, by decide +kernel⟩
/-- what the top has written -/
structure Tx (P : Program) (w : World) (K : PySem.W.Frag) (mg : Str → Option Value) (ad cl : Nat → Addr) : Prop where
  b_ValueError : mg "ValueError" = none
  b_abs : mg "abs" = none
  b_all : mg "all" = none
  b_bool : mg "bool" = none
  b_enumerate : mg "enumerate" = none
  b_int : mg "int" = none
  b_isinstance : mg "isinstance" = none
  b_len : mg "len" = none
  b_list : mg "list" = none
  b_min : mg "min" = none
  b_range : mg "range" = none
  b_sum : mg "sum" = none
  b_tuple : mg "tuple" = none
  b_zip : mg "zip" = none
  f_is_layer : ∃ fd, Fun K "is_layer" "is_layer" s_is_layer (ad 0) fd ∧ Binds K fd ["layer"] []
  g_is_layer : mg "is_layer" = some (.ref (ad 0))
  f_is_joint : ∃ fd, Fun K "is_joint" "is_joint" s_is_joint (ad 1) fd ∧ Binds K fd ["joint"] []
  g_is_joint : mg "is_joint" = some (.ref (ad 1))
  f_written_layer : ∃ fd, Fun K "written_layer" "written_layer" s_written_layer (ad 2) fd ∧ Binds K fd ["layer"] []
  g_written_layer : mg "written_layer" = some (.ref (ad 2))
  f_written_joint : ∃ fd, Fun K "written_joint" "written_joint" s_written_joint (ad 3) fd ∧ Binds K fd ["joint"] []
  g_written_joint : mg "written_joint" = some (.ref (ad 3))
  f_joined_joint : ∃ fd, Fun K "joined_joint" "joined_joint" s_joined_joint (ad 4) fd ∧ Binds K fd ["lower", "upper"] []
  g_joined_joint : mg "joined_joint" = some (.ref (ad 4))
  f_Core___init__ : ∃ fd, FunD K "__init__" "Core.__init__" (defArgs s_Core___init__) (defBody s_Core___init__) (defScope s_Core___init__) [.non] [] (ad 5) fd ∧ Binds K fd ["self", "layers", "joints"] []
  f_Core___len__ : ∃ fd, Fun K "__len__" "Core.__len__" s_Core___len__ (ad 6) fd ∧ Binds K fd ["self"] []
  o1_Core___len__ : Op1 K (cl 5) "__len__" (ad 6)
  f_Core___getitem__ : ∃ fd, Fun K "__getitem__" "Core.__getitem__" s_Core___getitem__ (ad 7) fd ∧ Binds K fd ["self", "k"] []
  m_Core___getitem__ : Meth K (cl 5) "__getitem__" (ad 7)
  f_Core___eq__ : ∃ fd, Fun K "__eq__" "Core.__eq__" s_Core___eq__ (ad 8) fd ∧ Binds K fd ["self", "other"] []
  o_Core___eq__ : OpC K (cl 5) "__eq__" (ad 8)
  f_Core_joint : ∃ fd, Fun K "joint" "Core.joint" s_Core_joint (ad 9) fd ∧ Binds K fd ["self", "k"] []
  m_Core_joint : Meth K (cl 5) "joint" (ad 9)
  f_Core_thickness : ∃ fd, Fun K "thickness" "Core.thickness" s_Core_thickness (ad 10) fd ∧ Binds K fd ["self"] []
  p_Core_thickness : PropOf K (cl 5) "thickness" (ad 43) (ad 10)
  f_Core_written : ∃ fd, Fun K "written" "Core.written" s_Core_written (ad 11) fd ∧ Binds K fd ["self"] []
  m_Core_written : Meth K (cl 5) "written" (ad 11)
  f_Core___add__ : ∃ fd, Fun K "__add__" "Core.__add__" s_Core___add__ (ad 12) fd ∧ Binds K fd ["self", "other"] []
  o_Core___add__ : OpC K (cl 5) "__add__" (ad 12)
  f_Core___invert__ : ∃ fd, Fun K "__invert__" "Core.__invert__" s_Core___invert__ (ad 13) fd ∧ Binds K fd ["self"] []
  o1_Core___invert__ : Op1 K (cl 5) "__invert__" (ad 13)
  f_Core_turned : ∃ fd, Fun K "turned" "Core.turned" s_Core_turned (ad 14) fd ∧ Binds K fd ["self", "first", "last"] []
  m_Core_turned : Meth K (cl 5) "turned" (ad 14)
  f_Core_narrowed : ∃ fd, FunD K "narrowed" "Core.narrowed" (defArgs s_Core_narrowed) (defBody s_Core_narrowed) (defScope s_Core_narrowed) [] [("least", .int 0), ("most", .non)] (ad 15) fd
  m_Core_narrowed : Meth K (cl 5) "narrowed" (ad 15)
  f_bare_core : FunS K "bare_core" "bare_core" s_bare_core [] "kinds" (ad 16)
  g_bare_core : mg "bare_core" = some (.ref (ad 16))
  f__law_mix : ∃ fd, Fun K "_law_mix" "_law_mix" s__law_mix (ad 17) fd ∧ Binds K fd ["_law_cell", "_law_turn"] []
  g__law_mix : mg "_law_mix" = some (.ref (ad 17))
  f__law_pool : ∃ fd, Fun K "_law_pool" "_law_pool" s__law_pool (ad 18) fd ∧ Binds K fd ["_law_script", "_law_many_here"] []
  g__law_pool : mg "_law_pool" = some (.ref (ad 18))
  f__law_draw : ∃ fd, Fun K "_law_draw" "_law_draw" s__law_draw (ad 19) fd ∧ Binds K fd ["_law_pool_here", "_law_bound"] []
  g__law_draw : mg "_law_draw" = some (.ref (ad 19))
  f__law_number : ∃ fd, Fun K "_law_number" "_law_number" s__law_number (ad 20) fd ∧ Binds K fd ["_law_pool_here"] []
  g__law_number : mg "_law_number" = some (.ref (ad 20))
  f__law_word : ∃ fd, Fun K "_law_word" "_law_word" s__law_word (ad 21) fd ∧ Binds K fd ["_law_pool_here"] []
  g__law_word : mg "_law_word" = some (.ref (ad 21))
  f__law_bounds : ∃ fd, Fun K "_law_bounds" "_law_bounds" s__law_bounds (ad 22) fd ∧ Binds K fd ["_law_pool_here"] []
  g__law_bounds : mg "_law_bounds" = some (.ref (ad 22))
  f__law_whole : ∃ fd, Fun K "_law_whole" "_law_whole" s__law_whole (ad 23) fd ∧ Binds K fd ["_law_number_here"] []
  g__law_whole : mg "_law_whole" = some (.ref (ad 23))
  f__law_same : ∃ fd, Fun K "_law_same" "_law_same" s__law_same (ad 24) fd ∧ Binds K fd ["_law_core", "_law_layers", "_law_joints"] []
  g__law_same : mg "_law_same" = some (.ref (ad 24))
  f__law_odd_layer : ∃ fd, Fun K "_law_odd_layer" "_law_odd_layer" s__law_odd_layer (ad 25) fd ∧ Binds K fd ["_law_number_here"] []
  g__law_odd_layer : mg "_law_odd_layer" = some (.ref (ad 25))
  f__law_odd_joint : ∃ fd, Fun K "_law_odd_joint" "_law_odd_joint" s__law_odd_joint (ad 26) fd ∧ Binds K fd ["_law_number_here"] []
  g__law_odd_joint : mg "_law_odd_joint" = some (.ref (ad 26))
  f__law_valid : ∃ fd, Fun K "_law_valid" "_law_valid" s__law_valid (ad 27) fd ∧ Binds K fd ["_law_layer"] []
  g__law_valid : mg "_law_valid" = some (.ref (ad 27))
  f__law_due : ∃ fd, Fun K "_law_due" "_law_due" s__law_due (ad 28) fd ∧ Binds K fd ["_law_layers", "_law_joints"] []
  g__law_due : mg "_law_due" = some (.ref (ad 28))
  f__law_got : ∃ fd, Fun K "_law_got" "_law_got" s__law_got (ad 29) fd ∧ Binds K fd ["_law_layers", "_law_joints"] []
  g__law_got : mg "_law_got" = some (.ref (ad 29))
  f__law_base : ∃ fd, Fun K "_law_base" "_law_base" s__law_base (ad 30) fd ∧ Binds K fd ["_law_layers", "_law_joints", "_law_word_here"] []
  g__law_base : mg "_law_base" = some (.ref (ad 30))
  f__law_char : ∃ fd, Fun K "_law_char" "_law_char" s__law_char (ad 31) fd ∧ Binds K fd ["_law_number_here"] []
  g__law_char : mg "_law_char" = some (.ref (ad 31))
  f__law_signs : ∃ fd, Fun K "_law_signs" "_law_signs" s__law_signs (ad 32) fd ∧ Binds K fd ["_law_pool_here", "_law_kind"] []
  g__law_signs : mg "_law_signs" = some (.ref (ad 32))
  f__law_counts : ∃ fd, Fun K "_law_counts" "_law_counts" s__law_counts (ad 33) fd ∧ Binds K fd ["_law_pool_here", "_law_kinds"] []
  g__law_counts : mg "_law_counts" = some (.ref (ad 33))
  f__law_many : ∃ fd, Fun K "_law_many" "_law_many" s__law_many (ad 34) fd ∧ Binds K fd ["_law_kinds"] []
  g__law_many : mg "_law_many" = some (.ref (ad 34))
  f__law_open : ∃ fd, Fun K "_law_open" "_law_open" s__law_open (ad 35) fd ∧ Binds K fd ["_law_kinds"] []
  g__law_open : mg "_law_open" = some (.ref (ad 35))
  f__law_bare : ∃ fd, Fun K "_law_bare" "_law_bare" s__law_bare (ad 36) fd ∧ Binds K fd ["_law_kinds"] []
  g__law_bare : mg "_law_bare" = some (.ref (ad 36))
  f_law : ∃ fd, Fun K "law" "law" s_law (ad 37) fd ∧ Binds K fd ["_law_script"] []
  g_law : mg "law" = some (.ref (ad 37))
  g_Core : mg "Core" = some (.ref (cl 5))
  k_Core : ClsOk K (Zz w K cl) 5
  na_Core_layers : NoAttr K (cl 5) "layers"
  na_Core_joints : NoAttr K (cl 5) "joints"
  mk_Core : Mk K (cl 5) (ad 5)
  g_SiltError : mg "SiltError" = some (.ref (cl 6))
  gs_LETTERS : ∃ t, mg "LETTERS" = some (.str "abcdefghijklmnopqrstuvwxyz" t)
  gi_Core : GetOk K (cl 5) (ad 7)
  cr_Core : ClX.CRead K (cl 5) (.type "type")
  cv_Core_MOST : ∃ t, ClX.CVal K (cl 5) (.type "type") "MOST" (.int 20) (.int 20 t)
  f_Core___iter__ : ∃ fd, Fun K "__iter__" "Core.__iter__" s_Core___iter__ (ad 42) fd ∧ Binds K fd ["self"] []
  b_iter : mg "iter" = none
  it_Core : Op1 K (cl 5) "__iter__" (ad 42)
  g_BadCore : mg "BadCore" = some (.ref (cl 0))
  xt_BadCore : ExT K (cl 0)
  g_BadLayer : mg "BadLayer" = some (.ref (cl 1))
  o_BadLayer : OexC K (cl 1)
  i_BadLayer : PySem.W.findIn K (.ref (cl 1)) "__init__" = some (some (.ref (ad 38)))
  t_BadLayer : PySem.W.typeIn K (.ref (ad 38)) = some (.type "function")
  nx_BadLayer_index : PySem.W.findIn K (.ref (cl 1)) "index" = some none
  f_BadLayer___init__ : ∃ fd, Fun K "__init__" "BadLayer.__init__" s_BadLayer___init__ (ad 38) fd ∧ Binds K fd ["self", "index"] []
  g_BadJoint : mg "BadJoint" = some (.ref (cl 2))
  o_BadJoint : OexC K (cl 2)
  i_BadJoint : PySem.W.findIn K (.ref (cl 2)) "__init__" = some (some (.ref (ad 39)))
  t_BadJoint : PySem.W.typeIn K (.ref (ad 39)) = some (.type "function")
  nx_BadJoint_index : PySem.W.findIn K (.ref (cl 2)) "index" = some none
  f_BadJoint___init__ : ∃ fd, Fun K "__init__" "BadJoint.__init__" s_BadJoint___init__ (ad 39) fd ∧ Binds K fd ["self", "index"] []
  g_NoLayer : mg "NoLayer" = some (.ref (cl 3))
  o_NoLayer : OexC K (cl 3)
  i_NoLayer : PySem.W.findIn K (.ref (cl 3)) "__init__" = some (some (.ref (ad 40)))
  t_NoLayer : PySem.W.typeIn K (.ref (ad 40)) = some (.type "function")
  nx_NoLayer_index : PySem.W.findIn K (.ref (cl 3)) "index" = some none
  f_NoLayer___init__ : ∃ fd, Fun K "__init__" "NoLayer.__init__" s_NoLayer___init__ (ad 40) fd ∧ Binds K fd ["self", "index"] []
  g_NoJoint : mg "NoJoint" = some (.ref (cl 4))
  o_NoJoint : OexC K (cl 4)
  i_NoJoint : PySem.W.findIn K (.ref (cl 4)) "__init__" = some (some (.ref (ad 41)))
  t_NoJoint : PySem.W.typeIn K (.ref (ad 41)) = some (.type "function")
  nx_NoJoint_index : PySem.W.findIn K (.ref (cl 4)) "index" = some none
  f_NoJoint___init__ : ∃ fd, Fun K "__init__" "NoJoint.__init__" s_NoJoint___init__ (ad 41) fd ∧ Binds K fd ["self", "index"] []
  xi : ∀ c, c < 5 → XiC K (cl c)
  xe_BadCore : ∀ c, c < 5 → PySem.W.exmOne K (.ref (cl c)) (.ref (cl 0)) = some (x_BadCore c)
  xe_BadJoint : ∀ c, c < 5 → PySem.W.exmOne K (.ref (cl c)) (.ref (cl 2)) = some (x_BadJoint c)
  xe_BadLayer : ∀ c, c < 5 → PySem.W.exmOne K (.ref (cl c)) (.ref (cl 1)) = some (x_BadLayer c)
  xe_SiltError : ∀ c, c < 5 → PySem.W.exmOne K (.ref (cl c)) (.ref (cl 6)) = some (x_SiltError c)
  xk_BadCore : ∀ c, c < 5 → PySem.W.kitOne K (.ref (cl c)) (.ref (cl 0)) = some (x_BadCore c)
  xk_BadJoint : ∀ c, c < 5 → PySem.W.kitOne K (.ref (cl c)) (.ref (cl 2)) = some (x_BadJoint c)
  xk_BadLayer : ∀ c, c < 5 → PySem.W.kitOne K (.ref (cl c)) (.ref (cl 1)) = some (x_BadLayer c)
  xk_ValueError : ∀ c, c < 5 → PySem.W.kitOne K (.ref (cl c)) (.type "ValueError") = some (x_ValueError c)
  ik_Core : ∀ ty b, i_Core ty = some b → PySem.W.kitOne K (tyVal (Zz w K cl) ty) (.ref (cl 5)) = some b
  ic_Core : ∀ c b, i_Core (.c c) = some b → IsiC K (cl c)
  ik_bool : ∀ ty b, i_bool ty = some b → PySem.W.kitOne K (tyVal (Zz w K cl) ty) (.type "bool") = some b
  ic_bool : ∀ c b, i_bool (.c c) = some b → IsiC K (cl c)
  ik_int : ∀ ty b, i_int ty = some b → PySem.W.kitOne K (tyVal (Zz w K cl) ty) (.type "int") = some b
  ic_int : ∀ c b, i_int (.c c) = some b → IsiC K (cl c)
  ik_tuple : ∀ ty b, i_tuple ty = some b → PySem.W.kitOne K (tyVal (Zz w K cl) ty) (.type "tuple") = some b
  ic_tuple : ∀ c b, i_tuple (.c c) = some b → IsiC K (cl c)
section
variable {P : Program} {w : World} {K : PySem.W.Frag} {mg : Str → Option Value} {base : Heap} {ad cl : Nat → Addr}
theorem it_Core (T : Tx P w K mg ad cl) : ItOk P w K mg base (cl 5) (ad 42) "layers" := by
  obtain ⟨fd, F, bd⟩ := T.f_Core___iter__
  exact ⟨T.it_Core.hs, T.it_Core.fn, fd, itN F sc_Core___iter__ T.b_iter rfl rfl rfl, bd⟩
theorem io_BadLayer (T : Tx P w K mg ad cl) : IOk P w K mg base (ad 38) ["self", "index"] (spI1 K "index") := by
  obtain ⟨fd, F, bd⟩ := T.f_BadLayer___init__
  refine ⟨⟨fd, F.ok sc_BadLayer___init__ (fun vs H Q E h => ?_) (fun cdv A outer s H vs Q E hr h => ?_), bd⟩⟩
  · obtain ⟨a, C, v, rfl, _⟩ := h
    rfl
  · obtain ⟨a, C, v, rfl, TT, nf, hx, k⟩ := h
    refine ⟨_, pss_one (ps_ost (pv 0) (pv 1)), ?_⟩
    exact ⟨_, rfl, _, rfl, a, C, rfl, TT, nf, .inl ⟨hx, fun dx h1 h2 => k dx h1 h2⟩⟩
theorem x1_BadLayer (T : Tx P w K mg ad cl) : Ex1 P w K mg base (Zz w K cl) 1 "index" (ad 38) ["self", "index"] := ⟨T.o_BadLayer, T.i_BadLayer, T.t_BadLayer, T.nx_BadLayer_index, rfl, io_BadLayer T⟩
theorem io_BadJoint (T : Tx P w K mg ad cl) : IOk P w K mg base (ad 39) ["self", "index"] (spI1 K "index") := by
  obtain ⟨fd, F, bd⟩ := T.f_BadJoint___init__
  refine ⟨⟨fd, F.ok sc_BadJoint___init__ (fun vs H Q E h => ?_) (fun cdv A outer s H vs Q E hr h => ?_), bd⟩⟩
  · obtain ⟨a, C, v, rfl, _⟩ := h
    rfl
  · obtain ⟨a, C, v, rfl, TT, nf, hx, k⟩ := h
    refine ⟨_, pss_one (ps_ost (pv 0) (pv 1)), ?_⟩
    exact ⟨_, rfl, _, rfl, a, C, rfl, TT, nf, .inl ⟨hx, fun dx h1 h2 => k dx h1 h2⟩⟩
theorem x1_BadJoint (T : Tx P w K mg ad cl) : Ex1 P w K mg base (Zz w K cl) 2 "index" (ad 39) ["self", "index"] := ⟨T.o_BadJoint, T.i_BadJoint, T.t_BadJoint, T.nx_BadJoint_index, rfl, io_BadJoint T⟩
theorem io_NoLayer (T : Tx P w K mg ad cl) : IOk P w K mg base (ad 40) ["self", "index"] (spI1 K "index") := by
  obtain ⟨fd, F, bd⟩ := T.f_NoLayer___init__
  refine ⟨⟨fd, F.ok sc_NoLayer___init__ (fun vs H Q E h => ?_) (fun cdv A outer s H vs Q E hr h => ?_), bd⟩⟩
  · obtain ⟨a, C, v, rfl, _⟩ := h
    rfl
  · obtain ⟨a, C, v, rfl, TT, nf, hx, k⟩ := h
    refine ⟨_, pss_one (ps_ost (pv 0) (pv 1)), ?_⟩
    exact ⟨_, rfl, _, rfl, a, C, rfl, TT, nf, .inl ⟨hx, fun dx h1 h2 => k dx h1 h2⟩⟩
theorem x1_NoLayer (T : Tx P w K mg ad cl) : Ex1 P w K mg base (Zz w K cl) 3 "index" (ad 40) ["self", "index"] := ⟨T.o_NoLayer, T.i_NoLayer, T.t_NoLayer, T.nx_NoLayer_index, rfl, io_NoLayer T⟩
theorem io_NoJoint (T : Tx P w K mg ad cl) : IOk P w K mg base (ad 41) ["self", "index"] (spI1 K "index") := by
  obtain ⟨fd, F, bd⟩ := T.f_NoJoint___init__
  refine ⟨⟨fd, F.ok sc_NoJoint___init__ (fun vs H Q E h => ?_) (fun cdv A outer s H vs Q E hr h => ?_), bd⟩⟩
  · obtain ⟨a, C, v, rfl, _⟩ := h
    rfl
  · obtain ⟨a, C, v, rfl, TT, nf, hx, k⟩ := h
    refine ⟨_, pss_one (ps_ost (pv 0) (pv 1)), ?_⟩
    exact ⟨_, rfl, _, rfl, a, C, rfl, TT, nf, .inl ⟨hx, fun dx h1 h2 => k dx h1 h2⟩⟩
theorem x1_NoJoint (T : Tx P w K mg ad cl) : Ex1 P w K mg base (Zz w K cl) 4 "index" (ad 41) ["self", "index"] := ⟨T.o_NoJoint, T.i_NoJoint, T.t_NoJoint, T.nx_NoJoint_index, rfl, io_NoJoint T⟩
theorem xf_index (T : Tx P w K mg ad cl) : ∀ c ∈ [1, 2, 3, 4], XfC K ((Zz w K cl).cl c) ∧ PySem.W.findIn K (.ref ((Zz w K cl).cl c)) "index" = some none ∧ ((Zz w K cl).fl c)[0]? = some ("index" : Str) ∧ ((Zz w K cl).fl c).Nodup := by
  intro c h
  simp only [List.mem_cons, List.not_mem_nil, or_false] at h
  rcases h with rfl | rfl | rfl | rfl
  · exact ⟨(T.xi 1 (by decide)).xf, T.nx_BadLayer_index, rfl, by show (flds 1).Nodup; decide +kernel⟩
  · exact ⟨(T.xi 2 (by decide)).xf, T.nx_BadJoint_index, rfl, by show (flds 2).Nodup; decide +kernel⟩
  · exact ⟨(T.xi 3 (by decide)).xf, T.nx_NoLayer_index, rfl, by show (flds 3).Nodup; decide +kernel⟩
  · exact ⟨(T.xi 4 (by decide)).xf, T.nx_NoJoint_index, rfl, by show (flds 4).Nodup; decide +kernel⟩
theorem ith_Core (T : Tx P w K mg ad cl) : ItOkH P w K mg base (cl 5) (ad 42) "layers" := by
  obtain ⟨fd, F, bd⟩ := T.f_Core___iter__
  exact ⟨T.it_Core.hs, T.it_Core.fn, fd, itNH F sc_Core___iter__ T.b_iter rfl rfl rfl, bd⟩
theorem okh_is_joint (T : Tx P w K mg ad cl) : DOkH P w K mg base 1 (ad 1) ["joint"] (spD (Zz w K cl) fh_is_joint 1) := by
  obtain ⟨fd, F, bd⟩ := T.f_is_joint
  exact ⟨⟨fd, fnHn F sc_is_joint (body := bh_is_joint) rfl rfl (fun cdv A outer s H E p hh hrh => (ds_cons (ds_asg (dv 0) (dg_tupH rfl (hotC_def (p := p) hh (List.mem_singleton.mpr rfl)) (dgs_cons (dg_name (i := 1) sc_is_joint.nd) (dgs_cons (dg_name (i := 2) sc_is_joint.nd) dgs_nil)))) (ds_one (ds_ret (de_and (de_cmpK c_ge (dv 1) de_int) (de_one (de_or (de_cmpK c_isN (dv 2) de_non) (de_one (de_cmpK c_le (dv 1) (dv 2)))))))))), bd⟩, F.kp⟩
theorem okh_Core___init__ (T : Tx P w K mg ad cl) : DOkNH P w K mg base 2 (ad 5) ["self", "layers", "joints"] (spD (Zz w K cl) fh_Core___init__ 3) := by
  obtain ⟨fd, F, bd⟩ := T.f_Core___init__
  exact ⟨fd, fnDHn F sc_Core___init__ (body := bh_Core___init__) rfl rfl (fun cdv A outer s H E p hh hrh => (ds_cons (ds_if (dt_cmp c_gt (de_callB call_len (ok_len rfl) T.b_len PySem.boot_len (da_cons (dv 1) da_nil)) (de_clsConI T.g_Core T.cr_Core T.cv_Core_MOST)) dss_never ds_nil) (ds_cons (ds_forH (passes_of rfl) (di_enumH rfl T.b_enumerate (da_cons (dv 1) da_nil)) (dg_tupH rfl (hotC_def (p := p) hh (List.mem_singleton.mpr rfl)) (dgs_cons (dg_name (i := 3) sc_Core___init__.nd) (dgs_cons (dg_name (i := 4) sc_Core___init__.nd) dgs_nil))) dss_never (hotC_def (p := p) hh (List.mem_singleton.mpr rfl))) (ds_cons (ds_if (dt_cmp c_isNC (dv 2) de_non) (ds_one (ds_set (i := 2) sc_Core___init__.nd (de_repL (de_lst (da_cons (de_tup (da_cons de_int (da_cons de_non da_nil))) da_nil)) (de_add (de_callB call_len (ok_len rfl) T.b_len PySem.boot_len (da_cons (dv 1) da_nil)) de_int)))) ds_nil) (ds_cons (ds_if (dt_cmp (c_neH rfl (hotUnits hrh)) (de_callB call_len (ok_len rfl) T.b_len PySem.boot_len (da_cons (dv 2) da_nil)) (de_add (de_callB call_len (ok_len rfl) T.b_len PySem.boot_len (da_cons (dv 1) da_nil)) de_int)) dss_never ds_nil) (ds_cons (ds_forH (passes_of rfl) (di_enumH rfl T.b_enumerate (da_cons (dv 2) da_nil)) (dg_tupH rfl (hotC_def (p := p) hh (List.mem_singleton.mpr rfl)) (dgs_cons (dg_name (i := 3) sc_Core___init__.nd) (dgs_cons (dg_name (i := 5) sc_Core___init__.nd) dgs_nil))) (ds_one (ds_if (dt_not (dt_val (de_callHD (okh_is_joint (P := P) (w := w) (base := base) T) (hrh.mono (by decide)) (hotC_def (p := p) hh (List.mem_singleton.mpr rfl)) T.g_is_joint (da_cons (dv 5) da_nil)))) dss_never ds_nil)) (hotC_def (p := p) hh (List.mem_singleton.mpr rfl))) (ds_cons (ds_fld (dv 0) (de_callTy call_list_of (ok_listI rfl) T.b_list (by decide +kernel) (da_cons (dv 1) da_nil)) rfl T.k_Core T.na_Core_layers rfl (by show (flds 5).length < 1000; decide)) (ds_one (ds_fld (dv 0) (de_callTy call_list_of (ok_listI rfl) T.b_list (by decide +kernel) (da_cons (dv 2) da_nil)) rfl T.k_Core T.na_Core_joints rfl (by show (flds 5).length < 1000; decide)))))))))), FunD.left1 F (by decide) fun _ _ _ _ _ _ _ us its h1 h2 => match us, its, h1, h2 with | [_, _], [_], _, _ => ⟨_, rfl, rfl⟩⟩
theorem okh_bare_core (T : Tx P w K mg ad cl) : DOkH0 P w K mg base 4 (ad 16) (spH0 (Zz w K cl) fh_bare_core) :=
  fnSHn T.f_bare_core sc_bare_core (body := bh_bare_core) rfl fun cdv A outer s H E p hh hrh => (ds_one (ds_ret (de_makeNH T.mk_Core (okh_Core___init__ (P := P) (w := w) (base := base) T) (hrh.mono (by decide)) (hotC_def (p := p) hh (List.mem_singleton.mpr rfl)) T.g_Core tw_none (da_cons (de_lcE (hotC_def (p := p) hh (List.mem_singleton.mpr rfl)) (di_tupH rfl (dv 0)) (blkOk_by (own := [("kind", 1)]) (N := n_bare_core) (sc := defScope s_bare_core) (by decide +kernel))) da_nil) rfl)))
theorem okh_Core___len__ (T : Tx P w K mg ad cl) : DOkH P w K mg base 1 (ad 6) ["self"] (spD (Zz w K cl) fh_Core___len__ 1) := by
  obtain ⟨fd, F, bd⟩ := T.f_Core___len__
  exact ⟨⟨fd, fnHn F sc_Core___len__ (body := bh_Core___len__) rfl rfl (fun cdv A outer s H E p hh hrh => (ds_one (ds_ret (de_callB call_len (ok_len rfl) T.b_len PySem.boot_len (da_cons (de_fld (dv 0) rfl T.k_Core T.na_Core_layers rfl) da_nil))))), bd⟩, F.kp⟩
theorem okh_Core_joint (T : Tx P w K mg ad cl) : DOkH P w K mg base 1 (ad 9) ["self", "k"] (spD (Zz w K cl) fh_Core_joint 2) := by
  obtain ⟨fd, F, bd⟩ := T.f_Core_joint
  exact ⟨⟨fd, fnHn F sc_Core_joint (body := bh_Core_joint) rfl rfl (fun cdv A outer s H E p hh hrh => (ds_cons (ds_if (dt_not (dt_chain c_le c_lt de_int (dv 1) (de_callB call_len (ok_len rfl) T.b_len PySem.boot_len (da_cons (de_fld (dv 0) rfl T.k_Core T.na_Core_joints rfl) da_nil)))) dss_never ds_nil) (ds_one (ds_ret (de_ix rfl (de_fld (dv 0) rfl T.k_Core T.na_Core_joints rfl) (dv 1)))))), bd⟩, F.kp⟩
theorem okh_Core_thickness (T : Tx P w K mg ad cl) : DOkH P w K mg base 1 (ad 10) ["self"] (spD (Zz w K cl) fh_Core_thickness 1) := by
  obtain ⟨fd, F, bd⟩ := T.f_Core_thickness
  exact ⟨⟨fd, fnHn F sc_Core_thickness (body := bh_Core_thickness) rfl rfl (fun cdv A outer s H E p hh hrh => (ds_one (ds_ret (de_callB (cr_sumH (hotC_def (p := p) hh (List.mem_singleton.mpr rfl))) (ok_sum rfl) T.b_sum (by decide +kernel) (da_cons (de_lcE (hotC_def (p := p) hh (List.mem_singleton.mpr rfl)) (di_listH rfl (de_fld (dv 0) rfl T.k_Core T.na_Core_layers rfl)) (blkOk_by (own := [("layer", 1)]) (N := n_Core_thickness) (sc := defScope s_Core_thickness) (by decide +kernel))) da_nil))))), bd⟩, F.kp⟩
theorem okh__law_whole (T : Tx P w K mg ad cl) : DOkH P w K mg base 1 (ad 23) ["_law_number_here"] (spD (Zz w K cl) fh__law_whole 1) := by
  obtain ⟨fd, F, bd⟩ := T.f__law_whole
  exact ⟨⟨fd, fnHn F sc__law_whole (body := bh__law_whole) rfl rfl (fun cdv A outer s H E p hh hrh => (ds_one (ds_ret (de_and (de_isi (pe_bltn (v := .ty "int") (u := .type "int") rfl T.b_int (by decide +kernel) rfl) (.ty _) rfl T.ik_int T.ic_int (dv 0) T.b_isinstance) (de_one (de_not (de_isi (pe_bltn (v := .ty "bool") (u := .type "bool") rfl T.b_bool (by decide +kernel) rfl) (.ty _) rfl T.ik_bool T.ic_bool (dv 0) T.b_isinstance))))))), bd⟩, F.kp⟩
theorem okh__law_same (T : Tx P w K mg ad cl) : DOkH P w K mg base 3 (ad 24) ["_law_core", "_law_layers", "_law_joints"] (spD (Zz w K cl) fh__law_same 3) := by
  obtain ⟨fd, F, bd⟩ := T.f__law_same
  exact ⟨⟨fd, fnHn F sc__law_same (body := bh__law_same) rfl rfl (fun cdv A outer s H E p hh hrh => (ds_cons (ds_if (PW.pt (dw_or (dt_not (dt_val (de_isi (pe_glob (v := .ref (cl 5)) rfl T.g_Core rfl) (.own _) rfl T.ik_Core T.ic_Core (dv 0) T.b_isinstance))) (dw_or1 (dt_cmp (c_neH rfl (hotUnits hrh)) (de_lenOH (dv 0) T.o1_Core___len__.hs T.o1_Core___len__.fn (okh_Core___len__ (P := P) (w := w) (base := base) T) (hrh.mono (by decide)) (hotC_def (p := p) hh (List.mem_singleton.mpr rfl)) rfl T.b_len) (de_callB call_len (ok_len rfl) T.b_len PySem.boot_len (da_cons (dv 1) da_nil)))))) (ds_one (ds_ret de_bl)) ds_nil) (ds_cons (ds_if (dt_cmp (c_neH rfl (hotUnits hrh)) (de_lcE (hotC_def (p := p) hh (List.mem_singleton.mpr rfl)) (di_ownH rfl (dv 0) T.k_Core T.na_Core_layers rfl (ith_Core (P := P) (w := w) (base := base) T) (hrh.mono (by decide)) (hotC_def (p := p) hh (List.mem_singleton.mpr rfl))) (blkOk_by (own := [("_law_layer", 5)]) (N := n__law_same) (sc := defScope s__law_same) (by decide +kernel))) (dv 1)) (ds_one (ds_ret de_bl)) ds_nil) (ds_cons (ds_set (i := 3) sc__law_same.nd de_int) (ds_cons (ds_forH (passes_of rfl) (di_range1H T.b_range (da_cons (de_callB call_len (ok_len rfl) T.b_len PySem.boot_len (da_cons (dv 1) da_nil)) da_nil)) (dg_name (i := 4) sc__law_same.nd) dss_never (hotC_def (p := p) hh (List.mem_singleton.mpr rfl))) (ds_cons (ds_forH (passes_of rfl) (di_range1H T.b_range (da_cons (de_callB call_len (ok_len rfl) T.b_len PySem.boot_len (da_cons (dv 2) da_nil)) da_nil)) (dg_name (i := 4) sc__law_same.nd) (ds_cons (ds_set (i := 6) sc__law_same.nd (de_methHD (dv 0) T.k_Core T.m_Core_joint (show ("joint" : Str) ∉ flds 5 by decide +kernel) (okh_Core_joint (P := P) (w := w) (base := base) T) (hrh.mono (by decide)) (hotC_def (p := p) hh (List.mem_singleton.mpr rfl)) tw_none (da_cons (dv 4) da_nil))) (ds_cons (ds_if (PW.pt (dw_or (dt_not (dt_val (de_isi (pe_bltn (v := .ty "tuple") (u := .type "tuple") rfl T.b_tuple (by decide +kernel) rfl) (.ty _) rfl T.ik_tuple T.ic_tuple (dv 6) T.b_isinstance))) (dw_or (dt_cmp (c_neH rfl (hotUnits hrh)) (dv 6) (de_ix rfl (dv 2) (dv 4))) (dw_or1 (dt_not (dt_val (de_callHD (okh__law_whole (P := P) (w := w) (base := base) T) (hrh.mono (by decide)) (hotC_def (p := p) hh (List.mem_singleton.mpr rfl)) T.g__law_whole (da_cons (de_ix rfl (dv 6) de_int) da_nil)))))))) (ds_one (ds_ret de_bl)) ds_nil) (ds_one (ds_if (PW.pt (dw_and (dt_cmp c_notN (de_ix rfl (dv 6) de_int) de_non) (dw_and1 (dt_not (dt_val (de_callHD (okh__law_whole (P := P) (w := w) (base := base) T) (hrh.mono (by decide)) (hotC_def (p := p) hh (List.mem_singleton.mpr rfl)) T.g__law_whole (da_cons (de_ix rfl (dv 6) de_int) da_nil))))))) (ds_one (ds_ret de_bl)) ds_nil)))) (hotC_def (p := p) hh (List.mem_singleton.mpr rfl))) (ds_one (ds_ret (de_and (de_callHD (okh__law_whole (P := P) (w := w) (base := base) T) (hrh.mono (by decide)) (hotC_def (p := p) hh (List.mem_singleton.mpr rfl)) T.g__law_whole (da_cons (de_propH (dv 0) T.k_Core T.p_Core_thickness (okh_Core_thickness (P := P) (w := w) (base := base) T) (hrh.mono (by decide)) (hotC_def (p := p) hh (List.mem_singleton.mpr rfl))) da_nil)) (de_one (de_cmpK (c_eqH rfl (hotUnits hrh)) (de_propH (dv 0) T.k_Core T.p_Core_thickness (okh_Core_thickness (P := P) (w := w) (base := base) T) (hrh.mono (by decide)) (hotC_def (p := p) hh (List.mem_singleton.mpr rfl))) (dv 3)))))))))))), bd⟩, F.kp⟩
theorem ok_is_layer (T : Tx P w K mg ad cl) : DOk P w K mg base 1 (ad 0) ["layer"] (spD (Zz w K cl) f_is_layer 1) := by
  obtain ⟨fd, F, bd⟩ := T.f_is_layer
  refine ⟨⟨fd, fnD F sc_is_layer (body := b_is_layer) rfl rfl fun cdv A outer s H E hr => ?_, bd⟩, F.kp⟩
  have tk := L2N.takes_of (X := cxOf (L2N.CX P w) P w K mg base n_is_layer "is_layer" (defScope s_is_layer) (ad 0) cdv A outer s H E) (E := E) rfl rfl rfl rfl
  have tw := tw_of tk
  exact (ds_cons (ds_asg (dv 0) (dg_tup rfl rfl (dgs_cons (dg_name (i := 1) sc_is_layer.nd) (dgs_cons (dg_name (i := 2) sc_is_layer.nd) dgs_nil)))) (ds_one (ds_ret (de_and (de_chain c_le c_le de_int (de_callB call_len (ok_len rfl) T.b_len PySem.boot_len (da_cons (dv 1) da_nil)) de_int) (de_and (de_callB (cr_all rfl) (ok_all rfl) T.b_all (by decide +kernel) (da_cons (de_settle (de_lcC (own := [("char", 3)]) rfl sc_is_layer.nd (blkOk_by (own := [("char", 3)]) (N := n_is_layer) (sc := defScope s_is_layer) (by decide +kernel)) (by decide) (di_str (dv 1)) (fun _ _ _ _ _ => (dg_name (i := 3) sc_is_layer.nd)) (fun _ _ _ _ _ => dts_nil) (fun _ _ _ _ _ => (de_cmpK c_inS (dv 3) (de_gstr T.gs_LETTERS))))) da_nil)) (de_one (de_cmpK c_ge (dv 2) de_int)))))))
theorem ok_is_joint (T : Tx P w K mg ad cl) : DOk P w K mg base 1 (ad 1) ["joint"] (spD (Zz w K cl) f_is_joint 1) := by
  obtain ⟨fd, F, bd⟩ := T.f_is_joint
  refine ⟨⟨fd, fnD F sc_is_joint (body := b_is_joint) rfl rfl fun cdv A outer s H E hr => ?_, bd⟩, F.kp⟩
  have tk := L2N.takes_of (X := cxOf (L2N.CX P w) P w K mg base n_is_joint "is_joint" (defScope s_is_joint) (ad 1) cdv A outer s H E) (E := E) rfl rfl rfl rfl
  have tw := tw_of tk
  exact (ds_cons (ds_asg (dv 0) (dg_tup rfl rfl (dgs_cons (dg_name (i := 1) sc_is_joint.nd) (dgs_cons (dg_name (i := 2) sc_is_joint.nd) dgs_nil)))) (ds_one (ds_ret (de_and (de_cmpK c_ge (dv 1) de_int) (de_one (de_or (de_cmpK c_isN (dv 2) de_non) (de_one (de_cmpK c_le (dv 1) (dv 2)))))))))
theorem ok_written_layer (T : Tx P w K mg ad cl) : DOk P w K mg base 1 (ad 2) ["layer"] (spD (Zz w K cl) f_written_layer 1) := by
  obtain ⟨fd, F, bd⟩ := T.f_written_layer
  refine ⟨⟨fd, fnD F sc_written_layer (body := b_written_layer) rfl rfl fun cdv A outer s H E hr => ?_, bd⟩, F.kp⟩
  have tk := L2N.takes_of (X := cxOf (L2N.CX P w) P w K mg base n_written_layer "written_layer" (defScope s_written_layer) (ad 2) cdv A outer s H E) (E := E) rfl rfl rfl rfl
  have tw := tw_of tk
  exact (ds_one (ds_ret (de_joined (dj_cons (de_fmt (de_ix rfl (dv 0) de_int)) (dj_cons de_str (dj_cons (de_fmt (de_ix rfl (dv 0) de_int)) dj_nil))))))
theorem ok_written_joint (T : Tx P w K mg ad cl) : DOk P w K mg base 1 (ad 3) ["joint"] (spD (Zz w K cl) f_written_joint 1) := by
  obtain ⟨fd, F, bd⟩ := T.f_written_joint
  refine ⟨⟨fd, fnD F sc_written_joint (body := b_written_joint) rfl rfl fun cdv A outer s H E hr => ?_, bd⟩, F.kp⟩
  have tk := L2N.takes_of (X := cxOf (L2N.CX P w) P w K mg base n_written_joint "written_joint" (defScope s_written_joint) (ad 3) cdv A outer s H E) (E := E) rfl rfl rfl rfl
  have tw := tw_of tk
  exact (ds_cons (ds_asg (dv 0) (dg_tup rfl rfl (dgs_cons (dg_name (i := 1) sc_written_joint.nd) (dgs_cons (dg_name (i := 2) sc_written_joint.nd) dgs_nil)))) (ds_one (ds_ret (de_if (dt_cmp c_isN (dv 2) de_non) (de_joined (dj_cons (de_fmt (dv 1)) (dj_cons de_str dj_nil))) (de_joined (dj_cons (de_fmt (dv 1)) (dj_cons de_str (dj_cons (de_fmt (dv 2)) dj_nil))))))))
theorem ok_joined_joint (T : Tx P w K mg ad cl) : DOk P w K mg base 1 (ad 4) ["lower", "upper"] (spD (Zz w K cl) f_joined_joint 2) := by
  obtain ⟨fd, F, bd⟩ := T.f_joined_joint
  refine ⟨⟨fd, fnD F sc_joined_joint (body := b_joined_joint) rfl rfl fun cdv A outer s H E hr => ?_, bd⟩, F.kp⟩
  have tk := L2N.takes_of (X := cxOf (L2N.CX P w) P w K mg base n_joined_joint "joined_joint" (defScope s_joined_joint) (ad 4) cdv A outer s H E) (E := E) rfl rfl rfl rfl
  have tw := tw_of tk
  exact (ds_cons (ds_if (PW.pt (dw_or (dt_cmp c_isN (de_ix rfl (dv 0) de_int) de_non) (dw_or1 (dt_cmp c_isN (de_ix rfl (dv 1) de_int) de_non)))) (ds_one (ds_ret (de_tup (da_cons (de_add (de_ix rfl (dv 0) de_int) (de_ix rfl (dv 1) de_int)) (da_cons de_non da_nil))))) ds_nil) (ds_one (ds_ret (de_tup (da_cons (de_add (de_ix rfl (dv 0) de_int) (de_ix rfl (dv 1) de_int)) (da_cons (de_add (de_ix rfl (dv 0) de_int) (de_ix rfl (dv 1) de_int)) da_nil))))))
theorem ok_Core___init__ (T : Tx P w K mg ad cl) : DOk P w K mg base 3 (ad 5) ["self", "layers", "joints"] (spD (Zz w K cl) f_Core___init__ 3) := by
  obtain ⟨fd, F, bd⟩ := T.f_Core___init__
  refine ⟨⟨fd, fnDD F sc_Core___init__ (body := b_Core___init__) rfl rfl fun cdv A outer s H E hr => ?_, bd⟩, F.kp⟩
  have tk := L2N.takes_of (X := cxOf (L2N.CX P w) P w K mg base n_Core___init__ "Core.__init__" (defScope s_Core___init__) (ad 5) cdv A outer s H E) (E := E) rfl rfl rfl rfl
  have tw := tw_of tk
  exact (ds_cons (ds_if (dt_cmp c_gt (de_callB call_len (ok_len rfl) T.b_len PySem.boot_len (da_cons (dv 1) da_nil)) (de_clsConI T.g_Core T.cr_Core T.cv_Core_MOST)) (ds_one (ds_raiseT rfl tk T.xt_BadCore T.g_BadCore)) ds_nil) (ds_cons (ds_forE rfl (passes_of rfl) T.b_enumerate (dv 1) (dg_tup rfl rfl (dgs_cons (dg_name (i := 3) sc_Core___init__.nd) (dgs_cons (dg_name (i := 4) sc_Core___init__.nd) dgs_nil))) (ds_one (ds_if (dt_not (dt_val (de_callD (ok_is_layer (P := P) (w := w) (base := base) T) (hr.mono (by decide)) T.g_is_layer tw (da_cons (dv 4) da_nil)))) (ds_one (ds_raise1D rfl rfl tk (x1_BadLayer (P := P) (w := w) (base := base) T) (hr.mono (by decide)) T.g_BadLayer (da_cons (dv 3) da_nil))) ds_nil))) (ds_cons (ds_if (dt_cmp c_isNC (dv 2) de_non) (ds_one (ds_set (i := 2) sc_Core___init__.nd (de_repL (de_lst (da_cons (de_tup (da_cons de_int (da_cons de_non da_nil))) da_nil)) (de_add (de_callB call_len (ok_len rfl) T.b_len PySem.boot_len (da_cons (dv 1) da_nil)) de_int)))) ds_nil) (ds_cons (ds_if (dt_cmp (c_ne rfl hr) (de_callB call_len (ok_len rfl) T.b_len PySem.boot_len (da_cons (dv 2) da_nil)) (de_add (de_callB call_len (ok_len rfl) T.b_len PySem.boot_len (da_cons (dv 1) da_nil)) de_int)) (ds_one (ds_raiseT rfl tk T.xt_BadCore T.g_BadCore)) ds_nil) (ds_cons (ds_forE rfl (passes_of rfl) T.b_enumerate (dv 2) (dg_tup rfl rfl (dgs_cons (dg_name (i := 3) sc_Core___init__.nd) (dgs_cons (dg_name (i := 5) sc_Core___init__.nd) dgs_nil))) (ds_one (ds_if (dt_not (dt_val (de_callD (ok_is_joint (P := P) (w := w) (base := base) T) (hr.mono (by decide)) T.g_is_joint tw (da_cons (dv 5) da_nil)))) (ds_one (ds_raise1D rfl rfl tk (x1_BadJoint (P := P) (w := w) (base := base) T) (hr.mono (by decide)) T.g_BadJoint (da_cons (dv 3) da_nil))) ds_nil))) (ds_cons (ds_fld (dv 0) (de_callTy call_list_of (ok_listI rfl) T.b_list (by decide +kernel) (da_cons (dv 1) da_nil)) rfl T.k_Core T.na_Core_layers rfl (by show (flds 5).length < 1000; decide)) (ds_one (ds_fld (dv 0) (de_callTy call_list_of (ok_listI rfl) T.b_list (by decide +kernel) (da_cons (dv 2) da_nil)) rfl T.k_Core T.na_Core_joints rfl (by show (flds 5).length < 1000; decide)))))))))
theorem okn_Core___init__ (T : Tx P w K mg ad cl) : DOkN P w K mg base 3 (ad 5) ["self", "layers", "joints"] (spD (Zz w K cl) f_Core___init__ 3) := by
  obtain ⟨fd, F, bd⟩ := T.f_Core___init__
  refine ⟨fd, fnDD F sc_Core___init__ (body := b_Core___init__) rfl rfl fun cdv A outer s H E hr => ?_, FunD.left1 F (by decide) fun _ _ _ _ _ _ _ us its h1 h2 => match us, its, h1, h2 with | [_, _], [_], _, _ => ⟨_, rfl, rfl⟩⟩
  have tk := L2N.takes_of (X := cxOf (L2N.CX P w) P w K mg base n_Core___init__ "Core.__init__" (defScope s_Core___init__) (ad 5) cdv A outer s H E) (E := E) rfl rfl rfl rfl
  have tw := tw_of tk
  exact (ds_cons (ds_if (dt_cmp c_gt (de_callB call_len (ok_len rfl) T.b_len PySem.boot_len (da_cons (dv 1) da_nil)) (de_clsConI T.g_Core T.cr_Core T.cv_Core_MOST)) (ds_one (ds_raiseT rfl tk T.xt_BadCore T.g_BadCore)) ds_nil) (ds_cons (ds_forE rfl (passes_of rfl) T.b_enumerate (dv 1) (dg_tup rfl rfl (dgs_cons (dg_name (i := 3) sc_Core___init__.nd) (dgs_cons (dg_name (i := 4) sc_Core___init__.nd) dgs_nil))) (ds_one (ds_if (dt_not (dt_val (de_callD (ok_is_layer (P := P) (w := w) (base := base) T) (hr.mono (by decide)) T.g_is_layer tw (da_cons (dv 4) da_nil)))) (ds_one (ds_raise1D rfl rfl tk (x1_BadLayer (P := P) (w := w) (base := base) T) (hr.mono (by decide)) T.g_BadLayer (da_cons (dv 3) da_nil))) ds_nil))) (ds_cons (ds_if (dt_cmp c_isNC (dv 2) de_non) (ds_one (ds_set (i := 2) sc_Core___init__.nd (de_repL (de_lst (da_cons (de_tup (da_cons de_int (da_cons de_non da_nil))) da_nil)) (de_add (de_callB call_len (ok_len rfl) T.b_len PySem.boot_len (da_cons (dv 1) da_nil)) de_int)))) ds_nil) (ds_cons (ds_if (dt_cmp (c_ne rfl hr) (de_callB call_len (ok_len rfl) T.b_len PySem.boot_len (da_cons (dv 2) da_nil)) (de_add (de_callB call_len (ok_len rfl) T.b_len PySem.boot_len (da_cons (dv 1) da_nil)) de_int)) (ds_one (ds_raiseT rfl tk T.xt_BadCore T.g_BadCore)) ds_nil) (ds_cons (ds_forE rfl (passes_of rfl) T.b_enumerate (dv 2) (dg_tup rfl rfl (dgs_cons (dg_name (i := 3) sc_Core___init__.nd) (dgs_cons (dg_name (i := 5) sc_Core___init__.nd) dgs_nil))) (ds_one (ds_if (dt_not (dt_val (de_callD (ok_is_joint (P := P) (w := w) (base := base) T) (hr.mono (by decide)) T.g_is_joint tw (da_cons (dv 5) da_nil)))) (ds_one (ds_raise1D rfl rfl tk (x1_BadJoint (P := P) (w := w) (base := base) T) (hr.mono (by decide)) T.g_BadJoint (da_cons (dv 3) da_nil))) ds_nil))) (ds_cons (ds_fld (dv 0) (de_callTy call_list_of (ok_listI rfl) T.b_list (by decide +kernel) (da_cons (dv 1) da_nil)) rfl T.k_Core T.na_Core_layers rfl (by show (flds 5).length < 1000; decide)) (ds_one (ds_fld (dv 0) (de_callTy call_list_of (ok_listI rfl) T.b_list (by decide +kernel) (da_cons (dv 2) da_nil)) rfl T.k_Core T.na_Core_joints rfl (by show (flds 5).length < 1000; decide)))))))))
theorem kwd_Core___init__ (T : Tx P w K mg ad cl) : KwD P w K mg base 3 (ad 5) ["self", "layers", "joints"] "joints" (spD (Zz w K cl) f_Core___init__ 3) := by
  obtain ⟨fd, F, _⟩ := T.f_Core___init__
  obtain ⟨its, kb⟩ := L2.FunD.kbindsD (ps := ["self", "layers", "joints"]) F 2 ["joints"] (fun us its ws => us ++ ws) (by simp) (fun r1 r2 r3 => r1.append r3) (fun _ _ _ _ _ _ _ us its ws h1 h2 h3 => match us, its, ws, h1, h2, h3 with | [_, _], [_], [_], _, _, _ => ⟨_, rfl, rfl⟩)
  refine ⟨fd, fnDD F sc_Core___init__ (body := b_Core___init__) rfl rfl fun cdv A outer s H E hr => ?_, kb⟩
  have tk := L2N.takes_of (X := cxOf (L2N.CX P w) P w K mg base n_Core___init__ "Core.__init__" (defScope s_Core___init__) (ad 5) cdv A outer s H E) (E := E) rfl rfl rfl rfl
  have tw := tw_of tk
  exact (ds_cons (ds_if (dt_cmp c_gt (de_callB call_len (ok_len rfl) T.b_len PySem.boot_len (da_cons (dv 1) da_nil)) (de_clsConI T.g_Core T.cr_Core T.cv_Core_MOST)) (ds_one (ds_raiseT rfl tk T.xt_BadCore T.g_BadCore)) ds_nil) (ds_cons (ds_forE rfl (passes_of rfl) T.b_enumerate (dv 1) (dg_tup rfl rfl (dgs_cons (dg_name (i := 3) sc_Core___init__.nd) (dgs_cons (dg_name (i := 4) sc_Core___init__.nd) dgs_nil))) (ds_one (ds_if (dt_not (dt_val (de_callD (ok_is_layer (P := P) (w := w) (base := base) T) (hr.mono (by decide)) T.g_is_layer tw (da_cons (dv 4) da_nil)))) (ds_one (ds_raise1D rfl rfl tk (x1_BadLayer (P := P) (w := w) (base := base) T) (hr.mono (by decide)) T.g_BadLayer (da_cons (dv 3) da_nil))) ds_nil))) (ds_cons (ds_if (dt_cmp c_isNC (dv 2) de_non) (ds_one (ds_set (i := 2) sc_Core___init__.nd (de_repL (de_lst (da_cons (de_tup (da_cons de_int (da_cons de_non da_nil))) da_nil)) (de_add (de_callB call_len (ok_len rfl) T.b_len PySem.boot_len (da_cons (dv 1) da_nil)) de_int)))) ds_nil) (ds_cons (ds_if (dt_cmp (c_ne rfl hr) (de_callB call_len (ok_len rfl) T.b_len PySem.boot_len (da_cons (dv 2) da_nil)) (de_add (de_callB call_len (ok_len rfl) T.b_len PySem.boot_len (da_cons (dv 1) da_nil)) de_int)) (ds_one (ds_raiseT rfl tk T.xt_BadCore T.g_BadCore)) ds_nil) (ds_cons (ds_forE rfl (passes_of rfl) T.b_enumerate (dv 2) (dg_tup rfl rfl (dgs_cons (dg_name (i := 3) sc_Core___init__.nd) (dgs_cons (dg_name (i := 5) sc_Core___init__.nd) dgs_nil))) (ds_one (ds_if (dt_not (dt_val (de_callD (ok_is_joint (P := P) (w := w) (base := base) T) (hr.mono (by decide)) T.g_is_joint tw (da_cons (dv 5) da_nil)))) (ds_one (ds_raise1D rfl rfl tk (x1_BadJoint (P := P) (w := w) (base := base) T) (hr.mono (by decide)) T.g_BadJoint (da_cons (dv 3) da_nil))) ds_nil))) (ds_cons (ds_fld (dv 0) (de_callTy call_list_of (ok_listI rfl) T.b_list (by decide +kernel) (da_cons (dv 1) da_nil)) rfl T.k_Core T.na_Core_layers rfl (by show (flds 5).length < 1000; decide)) (ds_one (ds_fld (dv 0) (de_callTy call_list_of (ok_listI rfl) T.b_list (by decide +kernel) (da_cons (dv 2) da_nil)) rfl T.k_Core T.na_Core_joints rfl (by show (flds 5).length < 1000; decide)))))))))
theorem ok_Core___len__ (T : Tx P w K mg ad cl) : DOk P w K mg base 1 (ad 6) ["self"] (spD (Zz w K cl) f_Core___len__ 1) := by
  obtain ⟨fd, F, bd⟩ := T.f_Core___len__
  refine ⟨⟨fd, fnD F sc_Core___len__ (body := b_Core___len__) rfl rfl fun cdv A outer s H E hr => ?_, bd⟩, F.kp⟩
  have tk := L2N.takes_of (X := cxOf (L2N.CX P w) P w K mg base n_Core___len__ "Core.__len__" (defScope s_Core___len__) (ad 6) cdv A outer s H E) (E := E) rfl rfl rfl rfl
  have tw := tw_of tk
  exact (ds_one (ds_ret (de_callB call_len (ok_len rfl) T.b_len PySem.boot_len (da_cons (de_fld (dv 0) rfl T.k_Core T.na_Core_layers rfl) da_nil))))
theorem ok_Core___getitem__ (T : Tx P w K mg ad cl) : DOk P w K mg base 3 (ad 7) ["self", "k"] (spD (Zz w K cl) f_Core___getitem__ 2) := by
  obtain ⟨fd, F, bd⟩ := T.f_Core___getitem__
  refine ⟨⟨fd, fnD F sc_Core___getitem__ (body := b_Core___getitem__) rfl rfl fun cdv A outer s H E hr => ?_, bd⟩, F.kp⟩
  have tk := L2N.takes_of (X := cxOf (L2N.CX P w) P w K mg base n_Core___getitem__ "Core.__getitem__" (defScope s_Core___getitem__) (ad 7) cdv A outer s H E) (E := E) rfl rfl rfl rfl
  have tw := tw_of tk
  exact (ds_cons (ds_if (dt_not (dt_chain c_le c_lt de_int (dv 1) (de_callB call_len (ok_len rfl) T.b_len PySem.boot_len (da_cons (de_fld (dv 0) rfl T.k_Core T.na_Core_layers rfl) da_nil)))) (ds_one (ds_raise1D rfl rfl tk (x1_NoLayer (P := P) (w := w) (base := base) T) (hr.mono (by decide)) T.g_NoLayer (da_cons (dv 1) da_nil))) ds_nil) (ds_one (ds_ret (de_ix rfl (de_fld (dv 0) rfl T.k_Core T.na_Core_layers rfl) (dv 1)))))
theorem ok_Core___eq__ (T : Tx P w K mg ad cl) : DOk P w K mg base 2 (ad 8) ["self", "other"] (spD (Zz w K cl) f_Core___eq__ 2) := by
  obtain ⟨fd, F, bd⟩ := T.f_Core___eq__
  refine ⟨⟨fd, fnD F sc_Core___eq__ (body := b_Core___eq__) rfl rfl fun cdv A outer s H E hr => ?_, bd⟩, F.kp⟩
  have tk := L2N.takes_of (X := cxOf (L2N.CX P w) P w K mg base n_Core___eq__ "Core.__eq__" (defScope s_Core___eq__) (ad 8) cdv A outer s H E) (E := E) rfl rfl rfl rfl
  have tw := tw_of tk
  exact (ds_one (ds_ret (de_and (de_isi (pe_glob (v := .ref (cl 5)) rfl T.g_Core rfl) (.own _) rfl T.ik_Core T.ic_Core (dv 1) T.b_isinstance) (de_and (de_cmpK (c_eq rfl hr) (de_fld (dv 0) rfl T.k_Core T.na_Core_layers rfl) (de_fld (dv 1) rfl T.k_Core T.na_Core_layers rfl)) (de_one (de_cmpK (c_eq rfl hr) (de_fld (dv 0) rfl T.k_Core T.na_Core_joints rfl) (de_fld (dv 1) rfl T.k_Core T.na_Core_joints rfl)))))))
theorem ok_Core_joint (T : Tx P w K mg ad cl) : DOk P w K mg base 3 (ad 9) ["self", "k"] (spD (Zz w K cl) f_Core_joint 2) := by
  obtain ⟨fd, F, bd⟩ := T.f_Core_joint
  refine ⟨⟨fd, fnD F sc_Core_joint (body := b_Core_joint) rfl rfl fun cdv A outer s H E hr => ?_, bd⟩, F.kp⟩
  have tk := L2N.takes_of (X := cxOf (L2N.CX P w) P w K mg base n_Core_joint "Core.joint" (defScope s_Core_joint) (ad 9) cdv A outer s H E) (E := E) rfl rfl rfl rfl
  have tw := tw_of tk
  exact (ds_cons (ds_if (dt_not (dt_chain c_le c_lt de_int (dv 1) (de_callB call_len (ok_len rfl) T.b_len PySem.boot_len (da_cons (de_fld (dv 0) rfl T.k_Core T.na_Core_joints rfl) da_nil)))) (ds_one (ds_raise1D rfl rfl tk (x1_NoJoint (P := P) (w := w) (base := base) T) (hr.mono (by decide)) T.g_NoJoint (da_cons (dv 1) da_nil))) ds_nil) (ds_one (ds_ret (de_ix rfl (de_fld (dv 0) rfl T.k_Core T.na_Core_joints rfl) (dv 1)))))
theorem ok_Core_thickness (T : Tx P w K mg ad cl) : DOk P w K mg base 1 (ad 10) ["self"] (spD (Zz w K cl) f_Core_thickness 1) := by
  obtain ⟨fd, F, bd⟩ := T.f_Core_thickness
  refine ⟨⟨fd, fnD F sc_Core_thickness (body := b_Core_thickness) rfl rfl fun cdv A outer s H E hr => ?_, bd⟩, F.kp⟩
  have tk := L2N.takes_of (X := cxOf (L2N.CX P w) P w K mg base n_Core_thickness "Core.thickness" (defScope s_Core_thickness) (ad 10) cdv A outer s H E) (E := E) rfl rfl rfl rfl
  have tw := tw_of tk
  exact (ds_one (ds_ret (de_callB (cr_sum rfl) (ok_sum rfl) T.b_sum (by decide +kernel) (da_cons (de_settle (de_lcC (own := [("layer", 1)]) rfl sc_Core_thickness.nd (blkOk_by (own := [("layer", 1)]) (N := n_Core_thickness) (sc := defScope s_Core_thickness) (by decide +kernel)) (by decide) (di_list rfl (de_fld (dv 0) rfl T.k_Core T.na_Core_layers rfl)) (fun _ _ _ _ _ => (dg_name (i := 1) sc_Core_thickness.nd)) (fun _ _ _ _ _ => dts_nil) (fun _ _ _ _ _ => (de_ix rfl (dv 1) de_int)))) da_nil))))
theorem ok_Core_written (T : Tx P w K mg ad cl) : DOk P w K mg base 2 (ad 11) ["self"] (spD (Zz w K cl) f_Core_written 1) := by
  obtain ⟨fd, F, bd⟩ := T.f_Core_written
  refine ⟨⟨fd, fnD F sc_Core_written (body := b_Core_written) rfl rfl fun cdv A outer s H E hr => ?_, bd⟩, F.kp⟩
  have tk := L2N.takes_of (X := cxOf (L2N.CX P w) P w K mg base n_Core_written "Core.written" (defScope s_Core_written) (ad 11) cdv A outer s H E) (E := E) rfl rfl rfl rfl
  have tw := tw_of tk
  exact (ds_cons (ds_set (i := 1) sc_Core_written.nd (de_lstC (da_cons (de_callD (ok_written_joint (P := P) (w := w) (base := base) T) (hr.mono (by decide)) T.g_written_joint tw (da_cons (de_ix rfl (de_fld (dv 0) rfl T.k_Core T.na_Core_joints rfl) de_int) da_nil)) da_nil))) (ds_cons (ds_for (passes_of rfl) (di_zip rfl T.b_zip (da_cons (de_fld (dv 0) rfl T.k_Core T.na_Core_layers rfl) (da_cons (de_slice rfl (de_fld (dv 0) rfl T.k_Core T.na_Core_joints rfl) (dp_some de_int) dp_none) da_nil))) (dg_tup rfl rfl (dgs_cons (dg_name (i := 2) sc_Core_written.nd) (dgs_cons (dg_name (i := 3) sc_Core_written.nd) dgs_nil))) (ds_cons (ds_expr (de_append rfl (dv 1) (de_callD (ok_written_layer (P := P) (w := w) (base := base) T) (hr.mono (by decide)) T.g_written_layer tw (da_cons (dv 2) da_nil)))) (ds_one (ds_expr (de_append rfl (dv 1) (de_callD (ok_written_joint (P := P) (w := w) (base := base) T) (hr.mono (by decide)) T.g_written_joint tw (da_cons (dv 3) da_nil))))))) (ds_one (ds_frz (ds_ret (de_join rfl de_str (dv 1)))))))
theorem ok_Core___add__ (T : Tx P w K mg ad cl) : DOk P w K mg base 5 (ad 12) ["self", "other"] (spD (Zz w K cl) f_Core___add__ 2) := by
  obtain ⟨fd, F, bd⟩ := T.f_Core___add__
  refine ⟨⟨fd, fnD F sc_Core___add__ (body := b_Core___add__) rfl rfl fun cdv A outer s H E hr => ?_, bd⟩, F.kp⟩
  have tk := L2N.takes_of (X := cxOf (L2N.CX P w) P w K mg base n_Core___add__ "Core.__add__" (defScope s_Core___add__) (ad 12) cdv A outer s H E) (E := E) rfl rfl rfl rfl
  have tw := tw_of tk
  exact (ds_cons (ds_if (dt_cmp c_gt (de_add (de_callB call_len (ok_len rfl) T.b_len PySem.boot_len (da_cons (de_fld (dv 0) rfl T.k_Core T.na_Core_layers rfl) da_nil)) (de_callB call_len (ok_len rfl) T.b_len PySem.boot_len (da_cons (de_fld (dv 1) rfl T.k_Core T.na_Core_layers rfl) da_nil))) (de_clsConI T.g_Core T.cr_Core T.cv_Core_MOST)) (ds_one (ds_raiseT rfl tk T.xt_BadCore T.g_BadCore)) ds_nil) (ds_cons (ds_set (i := 2) sc_Core___add__.nd (de_callD (ok_joined_joint (P := P) (w := w) (base := base) T) (hr.mono (by decide)) T.g_joined_joint tw (da_cons (de_ix rfl (de_fld (dv 0) rfl T.k_Core T.na_Core_joints rfl) (de_neg de_int)) (da_cons (de_ix rfl (de_fld (dv 1) rfl T.k_Core T.na_Core_joints rfl) de_int) da_nil)))) (ds_one (ds_ret (de_makeD T.mk_Core (ok_Core___init__ (P := P) (w := w) (base := base) T) (hr.mono (by decide)) T.g_Core tw (da_cons (de_add (de_fld (dv 0) rfl T.k_Core T.na_Core_layers rfl) (de_fld (dv 1) rfl T.k_Core T.na_Core_layers rfl)) (da_cons (de_add (de_add (de_slice rfl (de_fld (dv 0) rfl T.k_Core T.na_Core_joints rfl) dp_none (dp_some (de_neg de_int))) (de_lst (da_cons (dv 2) da_nil))) (de_slice rfl (de_fld (dv 1) rfl T.k_Core T.na_Core_joints rfl) (dp_some de_int) dp_none)) da_nil)) rfl)))))
theorem ok_Core___invert__ (T : Tx P w K mg ad cl) : DOk P w K mg base 5 (ad 13) ["self"] (spD (Zz w K cl) f_Core___invert__ 1) := by
  obtain ⟨fd, F, bd⟩ := T.f_Core___invert__
  refine ⟨⟨fd, fnD F sc_Core___invert__ (body := b_Core___invert__) rfl rfl fun cdv A outer s H E hr => ?_, bd⟩, F.kp⟩
  have tk := L2N.takes_of (X := cxOf (L2N.CX P w) P w K mg base n_Core___invert__ "Core.__invert__" (defScope s_Core___invert__) (ad 13) cdv A outer s H E) (E := E) rfl rfl rfl rfl
  have tw := tw_of tk
  exact (ds_one (ds_ret (de_makeD T.mk_Core (ok_Core___init__ (P := P) (w := w) (base := base) T) (hr.mono (by decide)) T.g_Core tw (da_cons (de_revL rfl (de_fld (dv 0) rfl T.k_Core T.na_Core_layers rfl)) (da_cons (de_revL rfl (de_fld (dv 0) rfl T.k_Core T.na_Core_joints rfl)) da_nil)) rfl)))
theorem ok_Core_turned (T : Tx P w K mg ad cl) : DOk P w K mg base 5 (ad 14) ["self", "first", "last"] (spD (Zz w K cl) f_Core_turned 3) := by
  obtain ⟨fd, F, bd⟩ := T.f_Core_turned
  refine ⟨⟨fd, fnD F sc_Core_turned (body := b_Core_turned) rfl rfl fun cdv A outer s H E hr => ?_, bd⟩, F.kp⟩
  have tk := L2N.takes_of (X := cxOf (L2N.CX P w) P w K mg base n_Core_turned "Core.turned" (defScope s_Core_turned) (ad 14) cdv A outer s H E) (E := E) rfl rfl rfl rfl
  have tw := tw_of tk
  exact (ds_cons (ds_if (dt_not (dt_chain c_le c_le de_int (dv 1) (de_callB call_len (ok_len rfl) T.b_len PySem.boot_len (da_cons (de_fld (dv 0) rfl T.k_Core T.na_Core_layers rfl) da_nil)))) (ds_one (ds_raise1D rfl rfl tk (x1_NoLayer (P := P) (w := w) (base := base) T) (hr.mono (by decide)) T.g_NoLayer (da_cons (dv 1) da_nil))) ds_nil) (ds_cons (ds_if (dt_not (dt_chain c_le c_le (dv 1) (dv 2) (de_callB call_len (ok_len rfl) T.b_len PySem.boot_len (da_cons (de_fld (dv 0) rfl T.k_Core T.na_Core_layers rfl) da_nil)))) (ds_one (ds_raise1D rfl rfl tk (x1_NoLayer (P := P) (w := w) (base := base) T) (hr.mono (by decide)) T.g_NoLayer (da_cons (dv 2) da_nil))) ds_nil) (ds_cons (ds_set (i := 3) sc_Core_turned.nd (de_callTy call_list_of (ok_listC rfl) T.b_list (by decide +kernel) (da_cons (de_fld (dv 0) rfl T.k_Core T.na_Core_layers rfl) da_nil))) (ds_cons (ds_set (i := 4) sc_Core_turned.nd (de_callTy call_list_of (ok_listC rfl) T.b_list (by decide +kernel) (da_cons (de_fld (dv 0) rfl T.k_Core T.na_Core_joints rfl) da_nil))) (ds_cons (ds_if (dt_cmp c_lt (dv 1) (dv 2)) (ds_cons (ds_setSl (dv 3) (dv 1) (dv 2) (de_revL rfl (de_slice rfl (dv 3) (dp_some (dv 1)) (dp_some (dv 2))))) (ds_one (ds_setSl (dv 4) (de_add (dv 1) de_int) (dv 2) (de_revL rfl (de_slice rfl (dv 4) (dp_some (de_add (dv 1) de_int)) (dp_some (dv 2))))))) ds_nil) (ds_one (ds_frz (ds_frz (ds_ret (de_makeD T.mk_Core (ok_Core___init__ (P := P) (w := w) (base := base) T) (hr.mono (by decide)) T.g_Core tw (da_cons (dv 3) (da_cons (dv 4) da_nil)) rfl))))))))))
theorem kw_Core_narrowed_1_least_most (T : Tx P w K mg ad cl) : MKw P w K mg base (Zz w K cl) 5 (ad 15) 2 ["least", "most"] G_Core_narrowed_1_least_most f_Core_narrowed 4 := by
  obtain ⟨fd, F⟩ := T.f_Core_narrowed
  obtain ⟨mv, kb⟩ := L2.FunD.kbinds0 (ps := ["self", "joint", "least", "most"]) F 2 ["least", "most"] [] (fun us mv ws => us ++ ws) (by simp) (fun q hq => by simp at hq ⊢; try simp [hq]) (fun r1 r2 r3 => r1.append r3) (fun _ _ _ _ _ _ us mv ws h1 h2 h3 => match us, mv, ws, h1, h2, h3 with | [_, _], [], [_, _], _, _, _ => rfl)
  refine ⟨fd, _, _, _, fnDD F sc_Core_narrowed (body := b_Core_narrowed) rfl rfl fun cdv A outer s H E hr => ?_, kb, grel_app⟩
  have tk := L2N.takes_of (X := cxOf (L2N.CX P w) P w K mg base n_Core_narrowed "Core.narrowed" (defScope s_Core_narrowed) (ad 15) cdv A outer s H E) (E := E) rfl rfl rfl rfl
  have tw := tw_of tk
  exact (ds_cons (ds_asg (de_methD (dv 0) T.k_Core T.m_Core_joint (show ("joint" : Str) ∉ flds 5 by decide +kernel) (ok_Core_joint (P := P) (w := w) (base := base) T) (hr.mono (by decide)) tw (da_cons (dv 1) da_nil)) (dg_tup rfl rfl (dgs_cons (dg_name (i := 4) sc_Core_narrowed.nd) (dgs_cons (dg_name (i := 5) sc_Core_narrowed.nd) dgs_nil)))) (ds_cons (ds_if (dt_cmp c_gt (dv 2) (dv 4)) (ds_one (ds_set (i := 4) sc_Core_narrowed.nd (dv 2))) ds_nil) (ds_cons (ds_if (PW.pt (dw_or (dt_cmp c_isN (dv 5) de_non) (dw_or1 (PW.pt (dw_and (dt_cmp c_notN (dv 3) de_non) (dw_and1 (dt_cmp c_lt (dv 3) (dv 5)))))))) (ds_one (ds_set (i := 5) sc_Core_narrowed.nd (dv 3))) ds_nil) (ds_cons (ds_if (PW.pt (dw_and (dt_cmp c_notN (dv 5) de_non) (dw_and1 (dt_cmp c_lt (dv 5) (dv 4))))) (ds_one (ds_raise1D rfl rfl tk (x1_BadJoint (P := P) (w := w) (base := base) T) (hr.mono (by decide)) T.g_BadJoint (da_cons (dv 1) da_nil))) ds_nil) (ds_cons (ds_set (i := 6) sc_Core_narrowed.nd (de_callTy call_list_of (ok_listC rfl) T.b_list (by decide +kernel) (da_cons (de_fld (dv 0) rfl T.k_Core T.na_Core_joints rfl) da_nil))) (ds_cons (ds_setIx (dv 6) (dv 1) (de_tup (da_cons (dv 4) (da_cons (dv 5) da_nil)))) (ds_one (ds_frz (ds_ret (de_makeD T.mk_Core (ok_Core___init__ (P := P) (w := w) (base := base) T) (hr.mono (by decide)) T.g_Core tw (da_cons (de_fld (dv 0) rfl T.k_Core T.na_Core_layers rfl) (da_cons (dv 6) da_nil)) rfl))))))))))
theorem ok_bare_core (T : Tx P w K mg ad cl) : DOkS P w K mg base 5 (ad 16) (spS (Zz w K cl) f_bare_core) := by
  refine ⟨fnS T.f_bare_core sc_bare_core (body := b_bare_core) rfl rfl fun cdv A outer s H E hr => ?_, T.f_bare_core.kp⟩
  have tk := L2N.takes_of (X := cxOf (L2N.CX P w) P w K mg base n_bare_core "bare_core" (defScope s_bare_core) (ad 16) cdv A outer s H E) (E := E) rfl rfl rfl rfl
  have tw := tw_of tk
  exact (ds_one (ds_ret (de_makeN T.mk_Core (okn_Core___init__ (P := P) (w := w) (base := base) T) (hr.mono (by decide)) T.g_Core tw (da_cons (de_settle (de_lcC (own := [("kind", 1)]) rfl sc_bare_core.nd (blkOk_by (own := [("kind", 1)]) (N := n_bare_core) (sc := defScope s_bare_core) (by decide +kernel)) (by decide) (di_tup rfl (dv 0)) (fun _ _ _ _ _ => (dg_name (i := 1) sc_bare_core.nd)) (fun _ _ _ _ _ => dts_nil) (fun _ _ _ _ _ => (de_tup (da_cons (dv 1) (da_cons de_int da_nil)))))) da_nil) rfl)))
theorem ok__law_mix (T : Tx P w K mg ad cl) : DOk P w K mg base 1 (ad 17) ["_law_cell", "_law_turn"] (spD (Zz w K cl) f__law_mix 2) := by
  obtain ⟨fd, F, bd⟩ := T.f__law_mix
  refine ⟨⟨fd, fnD F sc__law_mix (body := b__law_mix) rfl rfl fun cdv A outer s H E hr => ?_, bd⟩, F.kp⟩
  have tk := L2N.takes_of (X := cxOf (L2N.CX P w) P w K mg base n__law_mix "_law_mix" (defScope s__law_mix) (ad 17) cdv A outer s H E) (E := E) rfl rfl rfl rfl
  have tw := tw_of tk
  exact (ds_cons (ds_set (i := 2) sc__law_mix.nd (de_mod (de_callTy call_int1 ok_int1 T.b_int (by decide +kernel) (da_cons (de_add (de_mul (de_mul (dv 0) de_int) (de_add (dv 1) de_int)) (de_mul de_int (dv 1))) da_nil)) de_int)) (ds_one (ds_ret (de_add (dv 2) (de_div (de_mul (dv 2) (dv 2)) de_int)))))
theorem ok__law_pool (T : Tx P w K mg ad cl) : DOk P w K mg base 2 (ad 18) ["_law_script", "_law_many_here"] (spD (Zz w K cl) f__law_pool 2) := by
  obtain ⟨fd, F, bd⟩ := T.f__law_pool
  refine ⟨⟨fd, fnD F sc__law_pool (body := b__law_pool) rfl rfl fun cdv A outer s H E hr => ?_, bd⟩, F.kp⟩
  have tk := L2N.takes_of (X := cxOf (L2N.CX P w) P w K mg base n__law_pool "_law_pool" (defScope s__law_pool) (ad 18) cdv A outer s H E) (E := E) rfl rfl rfl rfl
  have tw := tw_of tk
  exact (ds_cons (ds_set (i := 2) sc__law_pool.nd (de_lstC da_nil)) (ds_cons (ds_set (i := 3) sc__law_pool.nd de_int) (ds_cons (ds_for (passes_of rfl) (di_range1 T.b_range (da_cons (de_callB (call_min2 rfl) ok_min T.b_min (by decide +kernel) (da_cons (de_callB call_len (ok_len rfl) T.b_len PySem.boot_len (da_cons (dv 0) da_nil)) (da_cons de_int da_nil))) da_nil)) (dg_name (i := 4) sc__law_pool.nd) (ds_cons (ds_set (i := 3) sc__law_pool.nd (de_mod (de_callTy call_int1 ok_int1 T.b_int (by decide +kernel) (da_cons (de_add (dv 3) (de_mul (de_ix rfl (dv 0) (dv 4)) (de_add (dv 4) de_int))) da_nil)) de_int)) (ds_cons (ds_set (i := 5) sc__law_pool.nd (de_callB call_abs ok_abs T.b_abs (by decide +kernel) (da_cons (de_ix rfl (dv 0) (dv 4)) da_nil))) (ds_cons (ds_set (i := 6) sc__law_pool.nd (de_cmpK c_ge (dv 5) (de_pow de_int de_int))) (ds_one (ds_for (passes_of rfl) (di_range1 T.b_range (da_cons de_int da_nil)) (dg_name (i := 7) sc__law_pool.nd) (ds_one (ds_if (PW.pt (dw_and (dt_tru rfl (dv 6)) (dw_and1 (dt_cmp c_gt (dv 5) de_int)))) (ds_cons (ds_expr (de_append rfl (dv 2) (de_mod (de_callTy call_int1 ok_int1 T.b_int (by decide +kernel) (da_cons (dv 5) da_nil)) de_int))) (ds_one (ds_set (i := 5) sc__law_pool.nd (de_div (dv 5) de_int)))) (ds_one (ds_if (PW.pt (dw_and (dt_not (dt_tru rfl (dv 6))) (dw_and1 (dt_cmp c_lt (dv 7) de_int)))) (ds_one (ds_expr (de_append rfl (dv 2) (de_callD (ok__law_mix (P := P) (w := w) (base := base) T) (hr.mono (by decide)) T.g__law_mix tw (da_cons (de_ix rfl (dv 0) (dv 4)) (da_cons (dv 7) da_nil)))))) ds_nil)))))))))) (ds_cons (ds_for (passes_of rfl) (di_range1 T.b_range (da_cons (dv 1) da_nil)) (dg_name (i := 7) sc__law_pool.nd) (ds_one (ds_if (dt_cmp c_lt (de_callB call_len (ok_len rfl) T.b_len PySem.boot_len (da_cons (dv 2) da_nil)) (dv 1)) (ds_one (ds_expr (de_append rfl (dv 2) (de_callD (ok__law_mix (P := P) (w := w) (base := base) T) (hr.mono (by decide)) T.g__law_mix tw (da_cons (dv 3) (da_cons (de_callB call_len (ok_len rfl) T.b_len PySem.boot_len (da_cons (dv 2) da_nil)) da_nil)))))) ds_nil))) (ds_one (ds_ret (dv 2)))))))
theorem ok__law_draw (T : Tx P w K mg ad cl) : DOk P w K mg base 2 (ad 19) ["_law_pool_here", "_law_bound"] (spD (Zz w K cl) f__law_draw 2) := by
  obtain ⟨fd, F, bd⟩ := T.f__law_draw
  refine ⟨⟨fd, fnD F sc__law_draw (body := b__law_draw) rfl rfl fun cdv A outer s H E hr => ?_, bd⟩, F.kp⟩
  have tk := L2N.takes_of (X := cxOf (L2N.CX P w) P w K mg base n__law_draw "_law_draw" (defScope s__law_draw) (ad 19) cdv A outer s H E) (E := E) rfl rfl rfl rfl
  have tw := tw_of tk
  exact (ds_cons (ds_if (dt_cmp (c_eq rfl hr) (de_callB call_len (ok_len rfl) T.b_len PySem.boot_len (da_cons (dv 0) da_nil)) de_int) (ds_one (ds_ret de_int)) ds_nil) (ds_one (ds_ret (de_mod (de_callTy call_int1 ok_int1 T.b_int (by decide +kernel) (da_cons (de_popAt rfl (dv 0) de_int) da_nil)) (dv 1)))))
theorem ok__law_number (T : Tx P w K mg ad cl) : DOk P w K mg base 3 (ad 20) ["_law_pool_here"] (spD (Zz w K cl) f__law_number 1) := by
  obtain ⟨fd, F, bd⟩ := T.f__law_number
  refine ⟨⟨fd, fnD F sc__law_number (body := b__law_number) rfl rfl fun cdv A outer s H E hr => ?_, bd⟩, F.kp⟩
  have tk := L2N.takes_of (X := cxOf (L2N.CX P w) P w K mg base n__law_number "_law_number" (defScope s__law_number) (ad 20) cdv A outer s H E) (E := E) rfl rfl rfl rfl
  have tw := tw_of tk
  exact (ds_cons (ds_set (i := 1) sc__law_number.nd (de_callD (ok__law_draw (P := P) (w := w) (base := base) T) (hr.mono (by decide)) T.g__law_draw tw (da_cons (dv 0) (da_cons de_int da_nil)))) (ds_cons (ds_set (i := 2) sc__law_number.nd (de_callD (ok__law_draw (P := P) (w := w) (base := base) T) (hr.mono (by decide)) T.g__law_draw tw (da_cons (dv 0) (da_cons de_int da_nil)))) (ds_cons (ds_if (dt_cmp (c_eq rfl hr) (dv 1) de_int) (ds_one (ds_for (passes_of rfl) (di_range1 T.b_range (da_cons de_int da_nil)) (dg_name (i := 3) sc__law_number.nd) (ds_one (ds_set (i := 2) sc__law_number.nd (de_add (de_mul (dv 2) de_int) (de_callD (ok__law_draw (P := P) (w := w) (base := base) T) (hr.mono (by decide)) T.g__law_draw tw (da_cons (dv 0) (da_cons de_int da_nil)))))))) ds_nil) (ds_one (ds_ret (de_mod (de_callTy call_int1 ok_int1 T.b_int (by decide +kernel) (da_cons (dv 2) da_nil)) (de_pow de_int de_int)))))))
theorem ok__law_word (T : Tx P w K mg ad cl) : DOk P w K mg base 3 (ad 21) ["_law_pool_here"] (spD (Zz w K cl) f__law_word 1) := by
  obtain ⟨fd, F, bd⟩ := T.f__law_word
  refine ⟨⟨fd, fnD F sc__law_word (body := b__law_word) rfl rfl fun cdv A outer s H E hr => ?_, bd⟩, F.kp⟩
  have tk := L2N.takes_of (X := cxOf (L2N.CX P w) P w K mg base n__law_word "_law_word" (defScope s__law_word) (ad 21) cdv A outer s H E) (E := E) rfl rfl rfl rfl
  have tw := tw_of tk
  exact (ds_cons (ds_set (i := 1) sc__law_word.nd de_str) (ds_cons (ds_for (passes_of rfl) (di_range1 T.b_range (da_cons (de_add de_int (de_callD (ok__law_draw (P := P) (w := w) (base := base) T) (hr.mono (by decide)) T.g__law_draw tw (da_cons (dv 0) (da_cons de_int da_nil)))) da_nil)) (dg_name (i := 2) sc__law_word.nd) (ds_one (ds_set (i := 1) sc__law_word.nd (de_add (dv 1) (de_ix rfl de_str (de_callD (ok__law_draw (P := P) (w := w) (base := base) T) (hr.mono (by decide)) T.g__law_draw tw (da_cons (dv 0) (da_cons de_int da_nil)))))))) (ds_one (ds_ret (dv 1)))))
theorem ok__law_bounds (T : Tx P w K mg ad cl) : DOk P w K mg base 4 (ad 22) ["_law_pool_here"] (spD (Zz w K cl) f__law_bounds 1) := by
  obtain ⟨fd, F, bd⟩ := T.f__law_bounds
  refine ⟨⟨fd, fnD F sc__law_bounds (body := b__law_bounds) rfl rfl fun cdv A outer s H E hr => ?_, bd⟩, F.kp⟩
  have tk := L2N.takes_of (X := cxOf (L2N.CX P w) P w K mg base n__law_bounds "_law_bounds" (defScope s__law_bounds) (ad 22) cdv A outer s H E) (E := E) rfl rfl rfl rfl
  have tw := tw_of tk
  exact (ds_cons (ds_set (i := 1) sc__law_bounds.nd (de_callD (ok__law_number (P := P) (w := w) (base := base) T) (hr.mono (by decide)) T.g__law_number tw (da_cons (dv 0) da_nil))) (ds_cons (ds_set (i := 2) sc__law_bounds.nd (de_add (dv 1) (de_callD (ok__law_number (P := P) (w := w) (base := base) T) (hr.mono (by decide)) T.g__law_number tw (da_cons (dv 0) da_nil)))) (ds_cons (ds_if (dt_cmp (c_eq rfl hr) (de_callD (ok__law_draw (P := P) (w := w) (base := base) T) (hr.mono (by decide)) T.g__law_draw tw (da_cons (dv 0) (da_cons de_int da_nil))) de_int) (ds_one (ds_ret (de_tup (da_cons (dv 1) (da_cons de_non da_nil))))) ds_nil) (ds_one (ds_ret (de_tup (da_cons (dv 1) (da_cons (dv 2) da_nil))))))))
theorem ok__law_whole (T : Tx P w K mg ad cl) : DOk P w K mg base 1 (ad 23) ["_law_number_here"] (spD (Zz w K cl) f__law_whole 1) := by
  obtain ⟨fd, F, bd⟩ := T.f__law_whole
  refine ⟨⟨fd, fnD F sc__law_whole (body := b__law_whole) rfl rfl fun cdv A outer s H E hr => ?_, bd⟩, F.kp⟩
  have tk := L2N.takes_of (X := cxOf (L2N.CX P w) P w K mg base n__law_whole "_law_whole" (defScope s__law_whole) (ad 23) cdv A outer s H E) (E := E) rfl rfl rfl rfl
  have tw := tw_of tk
  exact (ds_one (ds_ret (de_and (de_isi (pe_bltn (v := .ty "int") (u := .type "int") rfl T.b_int (by decide +kernel) rfl) (.ty _) rfl T.ik_int T.ic_int (dv 0) T.b_isinstance) (de_one (de_not (de_isi (pe_bltn (v := .ty "bool") (u := .type "bool") rfl T.b_bool (by decide +kernel) rfl) (.ty _) rfl T.ik_bool T.ic_bool (dv 0) T.b_isinstance))))))
theorem ok__law_same (T : Tx P w K mg ad cl) : DOk P w K mg base 5 (ad 24) ["_law_core", "_law_layers", "_law_joints"] (spD (Zz w K cl) f__law_same 3) := by
  obtain ⟨fd, F, bd⟩ := T.f__law_same
  refine ⟨⟨fd, fnD F sc__law_same (body := b__law_same) rfl rfl fun cdv A outer s H E hr => ?_, bd⟩, F.kp⟩
  have tk := L2N.takes_of (X := cxOf (L2N.CX P w) P w K mg base n__law_same "_law_same" (defScope s__law_same) (ad 24) cdv A outer s H E) (E := E) rfl rfl rfl rfl
  have tw := tw_of tk
  exact (ds_cons (ds_if (PW.pt (dw_or (dt_not (dt_val (de_isi (pe_glob (v := .ref (cl 5)) rfl T.g_Core rfl) (.own _) rfl T.ik_Core T.ic_Core (dv 0) T.b_isinstance))) (dw_or1 (dt_cmp (c_ne rfl hr) (de_lenO (dv 0) T.o1_Core___len__.hs T.o1_Core___len__.fn (ok_Core___len__ (P := P) (w := w) (base := base) T) (hr.mono (by decide)) rfl T.b_len) (de_callB call_len (ok_len rfl) T.b_len PySem.boot_len (da_cons (dv 1) da_nil)))))) (ds_one (ds_ret de_bl)) ds_nil) (ds_cons (ds_if (dt_cmp (c_ne rfl hr) (de_settle (de_lcC (own := [("_law_layer", 5)]) rfl sc__law_same.nd (blkOk_by (own := [("_law_layer", 5)]) (N := n__law_same) (sc := defScope s__law_same) (by decide +kernel)) (by decide) (di_own rfl (dv 0) T.k_Core T.na_Core_layers rfl (it_Core (P := P) (w := w) (base := base) T) (hr.mono (by decide))) (fun _ _ _ _ _ => (dg_name (i := 5) sc__law_same.nd)) (fun _ _ _ _ _ => dts_nil) (fun _ _ _ _ _ => (dv 5)))) (dv 1)) (ds_one (ds_ret de_bl)) ds_nil) (ds_cons (ds_set (i := 3) sc__law_same.nd de_int) (ds_cons (ds_for (passes_of rfl) (di_range1 T.b_range (da_cons (de_callB call_len (ok_len rfl) T.b_len PySem.boot_len (da_cons (dv 1) da_nil)) da_nil)) (dg_name (i := 4) sc__law_same.nd) (ds_cons (ds_set (i := 5) sc__law_same.nd (de_ownIx T.gi_Core (ok_Core___getitem__ (P := P) (w := w) (base := base) T) (hr.mono (by decide)) tw (dv 0) (dv 4))) (ds_cons (ds_if (PW.pt (dw_or (dt_not (dt_val (de_isi (pe_bltn (v := .ty "tuple") (u := .type "tuple") rfl T.b_tuple (by decide +kernel) rfl) (.ty _) rfl T.ik_tuple T.ic_tuple (dv 5) T.b_isinstance))) (dw_or (dt_cmp (c_ne rfl hr) (dv 5) (de_ix rfl (dv 1) (dv 4))) (dw_or1 (dt_not (dt_val (de_callD (ok__law_whole (P := P) (w := w) (base := base) T) (hr.mono (by decide)) T.g__law_whole tw (da_cons (de_ix rfl (dv 5) de_int) da_nil)))))))) (ds_one (ds_ret de_bl)) ds_nil) (ds_one (ds_set (i := 3) sc__law_same.nd (de_add (dv 3) (de_ix rfl (de_ix rfl (dv 1) (dv 4)) de_int))))))) (ds_cons (ds_for (passes_of rfl) (di_range1 T.b_range (da_cons (de_callB call_len (ok_len rfl) T.b_len PySem.boot_len (da_cons (dv 2) da_nil)) da_nil)) (dg_name (i := 4) sc__law_same.nd) (ds_cons (ds_set (i := 6) sc__law_same.nd (de_methD (dv 0) T.k_Core T.m_Core_joint (show ("joint" : Str) ∉ flds 5 by decide +kernel) (ok_Core_joint (P := P) (w := w) (base := base) T) (hr.mono (by decide)) tw (da_cons (dv 4) da_nil))) (ds_cons (ds_if (PW.pt (dw_or (dt_not (dt_val (de_isi (pe_bltn (v := .ty "tuple") (u := .type "tuple") rfl T.b_tuple (by decide +kernel) rfl) (.ty _) rfl T.ik_tuple T.ic_tuple (dv 6) T.b_isinstance))) (dw_or (dt_cmp (c_ne rfl hr) (dv 6) (de_ix rfl (dv 2) (dv 4))) (dw_or1 (dt_not (dt_val (de_callD (ok__law_whole (P := P) (w := w) (base := base) T) (hr.mono (by decide)) T.g__law_whole tw (da_cons (de_ix rfl (dv 6) de_int) da_nil)))))))) (ds_one (ds_ret de_bl)) ds_nil) (ds_one (ds_if (PW.pt (dw_and (dt_cmp c_notN (de_ix rfl (dv 6) de_int) de_non) (dw_and1 (dt_not (dt_val (de_callD (ok__law_whole (P := P) (w := w) (base := base) T) (hr.mono (by decide)) T.g__law_whole tw (da_cons (de_ix rfl (dv 6) de_int) da_nil))))))) (ds_one (ds_ret de_bl)) ds_nil))))) (ds_one (ds_ret (de_and (de_callD (ok__law_whole (P := P) (w := w) (base := base) T) (hr.mono (by decide)) T.g__law_whole tw (da_cons (de_propD (dv 0) T.k_Core T.p_Core_thickness (ok_Core_thickness (P := P) (w := w) (base := base) T) (hr.mono (by decide))) da_nil)) (de_one (de_cmpK (c_eq rfl hr) (de_propD (dv 0) T.k_Core T.p_Core_thickness (ok_Core_thickness (P := P) (w := w) (base := base) T) (hr.mono (by decide))) (dv 3)))))))))))
theorem ok__law_odd_layer (T : Tx P w K mg ad cl) : DOk P w K mg base 1 (ad 25) ["_law_number_here"] (spD (Zz w K cl) f__law_odd_layer 1) := by
  obtain ⟨fd, F, bd⟩ := T.f__law_odd_layer
  refine ⟨⟨fd, fnD F sc__law_odd_layer (body := b__law_odd_layer) rfl rfl fun cdv A outer s H E hr => ?_, bd⟩, F.kp⟩
  have tk := L2N.takes_of (X := cxOf (L2N.CX P w) P w K mg base n__law_odd_layer "_law_odd_layer" (defScope s__law_odd_layer) (ad 25) cdv A outer s H E) (E := E) rfl rfl rfl rfl
  have tw := tw_of tk
  exact (ds_cons (ds_set (i := 1) sc__law_odd_layer.nd (de_lst (da_cons (de_tup (da_cons de_str (da_cons de_int da_nil))) (da_cons (de_tup (da_cons de_str (da_cons de_int da_nil))) (da_cons (de_tup (da_cons de_str (da_cons de_int da_nil))) (da_cons (de_tup (da_cons de_str (da_cons de_int da_nil))) (da_cons (de_tup (da_cons de_str (da_cons de_int da_nil))) (da_cons (de_tup (da_cons de_str (da_cons de_int da_nil))) (da_cons (de_tup (da_cons de_str (da_cons (de_neg de_int) da_nil))) da_nil))))))))) (ds_cons (ds_set (i := 1) sc__law_odd_layer.nd (de_add (dv 1) (de_lst (da_cons (de_tup (da_cons de_str (da_cons (de_neg (de_pow de_int de_int)) da_nil))) (da_cons (de_tup (da_cons de_str (da_cons de_int da_nil))) (da_cons (de_tup (da_cons de_str (da_cons (de_pow de_int de_int) da_nil))) (da_cons (de_tup (da_cons de_str (da_cons de_int da_nil))) (da_cons (de_tup (da_cons de_str (da_cons de_int da_nil))) da_nil)))))))) (ds_one (ds_ret (de_ix rfl (dv 1) (de_mod (de_callTy call_int1 ok_int1 T.b_int (by decide +kernel) (da_cons (dv 0) da_nil)) de_int))))))
theorem ok__law_odd_joint (T : Tx P w K mg ad cl) : DOk P w K mg base 1 (ad 26) ["_law_number_here"] (spD (Zz w K cl) f__law_odd_joint 1) := by
  obtain ⟨fd, F, bd⟩ := T.f__law_odd_joint
  refine ⟨⟨fd, fnD F sc__law_odd_joint (body := b__law_odd_joint) rfl rfl fun cdv A outer s H E hr => ?_, bd⟩, F.kp⟩
  have tk := L2N.takes_of (X := cxOf (L2N.CX P w) P w K mg base n__law_odd_joint "_law_odd_joint" (defScope s__law_odd_joint) (ad 26) cdv A outer s H E) (E := E) rfl rfl rfl rfl
  have tw := tw_of tk
  exact (ds_cons (ds_set (i := 1) sc__law_odd_joint.nd (de_lst (da_cons (de_tup (da_cons (de_neg de_int) (da_cons de_non da_nil))) (da_cons (de_tup (da_cons de_int (da_cons de_int da_nil))) (da_cons (de_tup (da_cons de_int (da_cons de_int da_nil))) (da_cons (de_tup (da_cons de_int (da_cons de_int da_nil))) (da_cons (de_tup (da_cons (de_neg de_int) (da_cons (de_neg de_int) da_nil))) (da_cons (de_tup (da_cons de_int (da_cons (de_neg de_int) da_nil))) (da_cons (de_tup (da_cons (de_pow de_int de_int) (da_cons (de_sub (de_pow de_int de_int) de_int) da_nil))) (da_cons (de_tup (da_cons de_int (da_cons de_int da_nil))) (da_cons (de_tup (da_cons de_int (da_cons de_non da_nil))) da_nil))))))))))) (ds_one (ds_ret (de_ix rfl (dv 1) (de_mod (de_callTy call_int1 ok_int1 T.b_int (by decide +kernel) (da_cons (dv 0) da_nil)) de_int)))))
theorem ok__law_valid (T : Tx P w K mg ad cl) : DOk P w K mg base 1 (ad 27) ["_law_layer"] (spD (Zz w K cl) f__law_valid 1) := by
  obtain ⟨fd, F, bd⟩ := T.f__law_valid
  refine ⟨⟨fd, fnD F sc__law_valid (body := b__law_valid) rfl rfl fun cdv A outer s H E hr => ?_, bd⟩, F.kp⟩
  have tk := L2N.takes_of (X := cxOf (L2N.CX P w) P w K mg base n__law_valid "_law_valid" (defScope s__law_valid) (ad 27) cdv A outer s H E) (E := E) rfl rfl rfl rfl
  have tw := tw_of tk
  exact (ds_cons (ds_if (PW.pt (dw_or (dt_not (dt_chain c_le c_le de_int (de_callB call_len (ok_len rfl) T.b_len PySem.boot_len (da_cons (de_ix rfl (dv 0) de_int) da_nil)) de_int)) (dw_or1 (dt_cmp c_lt (de_ix rfl (dv 0) de_int) de_int)))) (ds_one (ds_ret de_bl)) ds_nil) (ds_cons (ds_for (passes_of rfl) (di_str (de_ix rfl (dv 0) de_int)) (dg_name (i := 1) sc__law_valid.nd) (ds_one (ds_if (dt_cmp c_notInS (dv 1) de_str) (ds_one (ds_ret de_bl)) ds_nil))) (ds_one (ds_ret de_bl))))
theorem ok__law_due (T : Tx P w K mg ad cl) : DOk P w K mg base 2 (ad 28) ["_law_layers", "_law_joints"] (spD (Zz w K cl) f__law_due 2) := by
  obtain ⟨fd, F, bd⟩ := T.f__law_due
  refine ⟨⟨fd, fnD F sc__law_due (body := b__law_due) rfl rfl fun cdv A outer s H E hr => ?_, bd⟩, F.kp⟩
  have tk := L2N.takes_of (X := cxOf (L2N.CX P w) P w K mg base n__law_due "_law_due" (defScope s__law_due) (ad 28) cdv A outer s H E) (E := E) rfl rfl rfl rfl
  have tw := tw_of tk
  exact (ds_cons (ds_if (dt_cmp c_gt (de_callB call_len (ok_len rfl) T.b_len PySem.boot_len (da_cons (dv 0) da_nil)) de_int) (ds_one (ds_ret (de_tup (da_cons de_str (da_cons de_int da_nil))))) ds_nil) (ds_cons (ds_for (passes_of rfl) (di_range1 T.b_range (da_cons (de_callB call_len (ok_len rfl) T.b_len PySem.boot_len (da_cons (dv 0) da_nil)) da_nil)) (dg_name (i := 2) sc__law_due.nd) (ds_one (ds_if (dt_not (dt_val (de_callD (ok__law_valid (P := P) (w := w) (base := base) T) (hr.mono (by decide)) T.g__law_valid tw (da_cons (de_ix rfl (dv 0) (dv 2)) da_nil)))) (ds_one (ds_ret (de_tup (da_cons de_str (da_cons (dv 2) da_nil))))) ds_nil))) (ds_cons (ds_if (dt_cmp c_isN (dv 1) de_non) (ds_one (ds_ret (de_tup (da_cons de_str (da_cons de_int da_nil))))) ds_nil) (ds_cons (ds_if (dt_cmp (c_ne rfl hr) (de_callB call_len (ok_len rfl) T.b_len PySem.boot_len (da_cons (dv 1) da_nil)) (de_add (de_callB call_len (ok_len rfl) T.b_len PySem.boot_len (da_cons (dv 0) da_nil)) de_int)) (ds_one (ds_ret (de_tup (da_cons de_str (da_cons de_int da_nil))))) ds_nil) (ds_cons (ds_for (passes_of rfl) (di_range1 T.b_range (da_cons (de_callB call_len (ok_len rfl) T.b_len PySem.boot_len (da_cons (dv 1) da_nil)) da_nil)) (dg_name (i := 2) sc__law_due.nd) (ds_one (ds_if (PW.pt (dw_or (dt_cmp c_lt (de_ix rfl (de_ix rfl (dv 1) (dv 2)) de_int) de_int) (dw_or1 (PW.pt (dw_and (dt_cmp c_notN (de_ix rfl (de_ix rfl (dv 1) (dv 2)) de_int) de_non) (dw_and1 (dt_cmp c_lt (de_ix rfl (de_ix rfl (dv 1) (dv 2)) de_int) (de_ix rfl (de_ix rfl (dv 1) (dv 2)) de_int)))))))) (ds_one (ds_ret (de_tup (da_cons de_str (da_cons (dv 2) da_nil))))) ds_nil))) (ds_one (ds_ret (de_tup (da_cons de_str (da_cons de_int da_nil))))))))))
theorem ok__law_got (T : Tx P w K mg ad cl) : DOk P w K mg base 5 (ad 29) ["_law_layers", "_law_joints"] (spD (Zz w K cl) f__law_got 2) := by
  obtain ⟨fd, F, bd⟩ := T.f__law_got
  refine ⟨⟨fd, fnD F sc__law_got (body := b__law_got) rfl rfl fun cdv A outer s H E hr => ?_, bd⟩, F.kp⟩
  have tk := L2N.takes_of (X := cxOf (L2N.CX P w) P w K mg base n__law_got "_law_got" (defScope s__law_got) (ad 29) cdv A outer s H E) (E := E) rfl rfl rfl rfl
  have tw := tw_of tk
  exact (ds_cons (ds_try_mn rfl rfl rfl tk (fun W pn xe tkb hpb => (ds_one (ds_if (dt_cmp c_isN (dv 1) de_non) (ds_one (ds_expr (de_makeN T.mk_Core (okn_Core___init__ (P := P) (w := w) (base := base) T) (hr.mono (by decide)) T.g_Core (tw_of tkb) (da_cons (de_callTy call_list_of (ok_listI rfl) T.b_list (by decide +kernel) (da_cons (dv 0) da_nil)) da_nil) rfl))) (ds_one (ds_expr (de_makeD T.mk_Core (ok_Core___init__ (P := P) (w := w) (base := base) T) (hr.mono (by decide)) T.g_Core (tw_of tkb) (da_cons (de_callTy call_list_of (ok_listI rfl) T.b_list (by decide +kernel) (da_cons (dv 0) da_nil)) (da_cons (de_callTy call_list_of (ok_listI rfl) T.b_list (by decide +kernel) (da_cons (dv 1) da_nil)) da_nil)) rfl)))))) (.named (i := 2) sc__law_got.nd ⟨rfl, by decide, .inl T.g_BadLayer⟩ T.xe_BadLayer (fun a oe c d pn hcn hzn hfl => (have hrh := L2H.roomH_mark hr (some (.ref a)); (ds_one (ds_ret (de_tup (da_cons de_str (da_cons (de_xf (xf_index T) hzn hfl (dv 2)) da_nil))))))) (.named (i := 2) sc__law_got.nd ⟨rfl, by decide, .inl T.g_BadJoint⟩ T.xe_BadJoint (fun a oe c d pn hcn hzn hfl => (have hrh := L2H.roomH_mark hr (some (.ref a)); (ds_one (ds_ret (de_tup (da_cons de_str (da_cons (de_xf (xf_index T) hzn hfl (dv 2)) da_nil))))))) (.cons ⟨rfl, by decide, .inl T.g_BadCore⟩ T.xe_BadCore (fun a oe c d pn hcn hzn hfl => (have hrh := L2H.roomH_mark hr (some (.ref a)); (ds_one (ds_ret (de_tup (da_cons de_str (da_cons de_int da_nil))))))) .nil) rfl rfl) rfl rfl)) (ds_one (ds_ret (de_tup (da_cons de_str (da_cons de_int da_nil))))))
theorem ok__law_base (T : Tx P w K mg ad cl) : DOk P w K mg base 5 (ad 30) ["_law_layers", "_law_joints", "_law_word_here"] (spD (Zz w K cl) f__law_base 3) := by
  obtain ⟨fd, F, bd⟩ := T.f__law_base
  refine ⟨⟨fd, fnD F sc__law_base (body := b__law_base) rfl rfl fun cdv A outer s H E hr => ?_, bd⟩, F.kp⟩
  have tk := L2N.takes_of (X := cxOf (L2N.CX P w) P w K mg base n__law_base "_law_base" (defScope s__law_base) (ad 30) cdv A outer s H E) (E := E) rfl rfl rfl rfl
  have tw := tw_of tk
  exact (ds_cons (ds_try_as (i := 3) rfl rfl sc__law_base.nd rfl ⟨rfl, by decide, .inl T.g_SiltError⟩ tk T.xe_SiltError (fun W pn xe tkb hpb => (ds_one (ds_expr (de_makeD T.mk_Core (ok_Core___init__ (P := P) (w := w) (base := base) T) (hr.mono (by decide)) T.g_Core (tw_of tkb) (da_cons (dv 0) (da_cons (dv 1) da_nil)) rfl)))) (fun a oe c d pn hcn hzn hfl => (have hrh := L2H.roomH_mark hr (some (.ref a)); (ds_cons (ds_if (PW.pt (dw_or (dt_cmp (c_neH rfl (hotUnits hrh)) (de_isX (T.xi _ hcn) (pe_glob (v := .ref (cl 1)) rfl T.g_BadLayer rfl) (fun _ r => r) (fun b h => by cases h; exact T.xk_BadLayer _ hcn) hzn hfl (dv 3) T.b_isinstance) (de_cmpK (c_eqH rfl (hotUnits hrh)) (dv 2) de_str)) (dw_or1 (dt_cmp (c_neH rfl (hotUnits hrh)) (de_isX (T.xi _ hcn) (pe_glob (v := .ref (cl 2)) rfl T.g_BadJoint rfl) (fun _ r => r) (fun b h => by cases h; exact T.xk_BadJoint _ hcn) hzn hfl (dv 3) T.b_isinstance) (de_cmpK (c_eqH rfl (hotUnits hrh)) (dv 2) de_str))))) (ds_one (ds_ret de_bl)) ds_nil) (ds_one (ds_ret (de_and (de_isX (T.xi _ hcn) (pe_glob (v := .ref (cl 0)) rfl T.g_BadCore rfl) (fun _ r => r) (fun b h => by cases h; exact T.xk_BadCore _ hcn) hzn hfl (dv 3) T.b_isinstance) (de_one (de_isX (T.xi _ hcn) (pe_bltn (v := .ty "ValueError") (u := .type "ValueError") rfl T.b_ValueError (by decide +kernel) rfl) (fun _ r => r) (fun b h => by cases h; exact T.xk_ValueError _ hcn) hzn hfl (dv 3) T.b_isinstance))))))))) (ds_one (ds_ret de_bl)))
theorem ok__law_char (T : Tx P w K mg ad cl) : DOk P w K mg base 1 (ad 31) ["_law_number_here"] (spD (Zz w K cl) f__law_char 1) := by
  obtain ⟨fd, F, bd⟩ := T.f__law_char
  refine ⟨⟨fd, fnD F sc__law_char (body := b__law_char) rfl rfl fun cdv A outer s H E hr => ?_, bd⟩, F.kp⟩
  have tk := L2N.takes_of (X := cxOf (L2N.CX P w) P w K mg base n__law_char "_law_char" (defScope s__law_char) (ad 31) cdv A outer s H E) (E := E) rfl rfl rfl rfl
  have tw := tw_of tk
  exact (ds_cons (ds_set (i := 1) sc__law_char.nd de_str) (ds_cons (ds_set (i := 1) sc__law_char.nd (de_add (dv 1) de_str)) (ds_one (ds_ret (de_ix rfl (dv 1) (de_mod (de_callTy call_int1 ok_int1 T.b_int (by decide +kernel) (da_cons (dv 0) da_nil)) de_int))))))
theorem ok__law_signs (T : Tx P w K mg ad cl) : DOk P w K mg base 6 (ad 32) ["_law_pool_here", "_law_kind"] (spD (Zz w K cl) f__law_signs 2) := by
  obtain ⟨fd, F, bd⟩ := T.f__law_signs
  refine ⟨⟨fd, fnD F sc__law_signs (body := b__law_signs) rfl rfl fun cdv A outer s H E hr => ?_, bd⟩, F.kp⟩
  have tk := L2N.takes_of (X := cxOf (L2N.CX P w) P w K mg base n__law_signs "_law_signs" (defScope s__law_signs) (ad 32) cdv A outer s H E) (E := E) rfl rfl rfl rfl
  have tw := tw_of tk
  exact (ds_cons (ds_set (i := 2) sc__law_signs.nd (de_callD (ok__law_draw (P := P) (w := w) (base := base) T) (hr.mono (by decide)) T.g__law_draw tw (da_cons (dv 0) (da_cons (de_add (de_callB call_len (ok_len rfl) T.b_len PySem.boot_len (da_cons (dv 1) da_nil)) de_int) da_nil)))) (ds_cons (ds_for (passes_of rfl) (di_list rfl (de_lst (da_cons de_str (da_cons de_str (da_cons de_str (da_cons (de_callD (ok__law_char (P := P) (w := w) (base := base) T) (hr.mono (by decide)) T.g__law_char tw (da_cons (de_callD (ok__law_draw (P := P) (w := w) (base := base) T) (hr.mono (by decide)) T.g__law_draw tw (da_cons (dv 0) (da_cons de_int da_nil))) da_nil)) da_nil)))))) (dg_name (i := 3) sc__law_signs.nd) (ds_one (ds_for (passes_of rfl) (di_list rfl (de_lst (da_cons de_int (da_cons (dv 2) (da_cons (de_callB call_len (ok_len rfl) T.b_len PySem.boot_len (da_cons (dv 1) da_nil)) da_nil))))) (dg_name (i := 4) sc__law_signs.nd) (ds_cons (ds_set (i := 5) sc__law_signs.nd (de_tup (da_cons (de_add (de_add (de_slice rfl (dv 1) dp_none (dp_some (dv 4))) (dv 3)) (de_slice rfl (dv 1) (dp_some (dv 4)) dp_none)) (da_cons de_int da_nil)))) (ds_cons (ds_set (i := 6) sc__law_signs.nd (de_tup (da_cons de_str (da_cons de_int da_nil)))) (ds_cons (ds_if (dt_val (de_callD (ok__law_valid (P := P) (w := w) (base := base) T) (hr.mono (by decide)) T.g__law_valid tw (da_cons (dv 5) da_nil))) (ds_one (ds_set (i := 6) sc__law_signs.nd (de_tup (da_cons de_str (da_cons de_int da_nil))))) ds_nil) (ds_one (ds_if (dt_cmp (c_ne rfl hr) (de_callD (ok__law_got (P := P) (w := w) (base := base) T) (hr.mono (by decide)) T.g__law_got tw (da_cons (de_lst (da_cons (dv 5) da_nil)) (da_cons de_non da_nil))) (dv 6)) (ds_one (ds_ret de_bl)) ds_nil)))))))) (ds_one (ds_ret de_bl))))
theorem ok__law_counts (T : Tx P w K mg ad cl) : DOk P w K mg base 6 (ad 33) ["_law_pool_here", "_law_kinds"] (spD (Zz w K cl) f__law_counts 2) := by
  obtain ⟨fd, F, bd⟩ := T.f__law_counts
  refine ⟨⟨fd, fnD F sc__law_counts (body := b__law_counts) rfl rfl fun cdv A outer s H E hr => ?_, bd⟩, F.kp⟩
  have tk := L2N.takes_of (X := cxOf (L2N.CX P w) P w K mg base n__law_counts "_law_counts" (defScope s__law_counts) (ad 33) cdv A outer s H E) (E := E) rfl rfl rfl rfl
  have tw := tw_of tk
  exact (ds_cons (ds_setLcI (i := 2) (own := [("_law_kind", 6)]) rfl sc__law_counts.nd (blkOk_by (own := [("_law_kind", 6)]) (N := n__law_counts) (sc := defScope s__law_counts) (by decide +kernel)) (by decide) (di_list rfl (dv 1)) (fun _ _ _ _ _ => (dg_name (i := 6) sc__law_counts.nd)) (fun _ _ _ _ _ => dts_nil) (fun _ _ _ _ _ => (de_tup (da_cons (dv 6) (da_cons de_int da_nil))))) (ds_cons (ds_for (passes_of rfl) (di_list rfl (de_lst (da_cons de_int (da_cons de_int (da_cons de_int (da_cons de_int (da_cons de_int (da_cons de_int (da_cons de_int da_nil))))))))) (dg_name (i := 3) sc__law_counts.nd) (ds_one (ds_if (dt_cmp (c_ne rfl hr) (de_callD (ok__law_got (P := P) (w := w) (base := base) T) (hr.mono (by decide)) T.g__law_got tw (da_cons (dv 2) (da_cons (de_repL (de_lst (da_cons (de_tup (da_cons de_int (da_cons de_non da_nil))) da_nil)) (dv 3)) da_nil))) (de_tup (da_cons de_str (da_cons de_int da_nil)))) (ds_one (ds_ret de_bl)) ds_nil))) (ds_cons (ds_set (i := 4) sc__law_counts.nd (de_sub (de_neg de_int) (de_callD (ok__law_number (P := P) (w := w) (base := base) T) (hr.mono (by decide)) T.g__law_number tw (da_cons (dv 0) da_nil)))) (ds_cons (ds_for (passes_of rfl) (di_list rfl (de_lst (da_cons (de_tup (da_cons (dv 4) (da_cons (de_callD (ok__law_number (P := P) (w := w) (base := base) T) (hr.mono (by decide)) T.g__law_number tw (da_cons (dv 0) da_nil)) da_nil))) (da_cons (de_tup (da_cons (dv 4) (da_cons de_int da_nil))) (da_cons (de_tup (da_cons (dv 4) (da_cons (de_neg (dv 4)) da_nil))) da_nil))))) (dg_name (i := 5) sc__law_counts.nd) (ds_cons (ds_if (dt_cmp (c_ne rfl hr) (de_callD (ok__law_got (P := P) (w := w) (base := base) T) (hr.mono (by decide)) T.g__law_got tw (da_cons (de_lst da_nil) (da_cons (de_lst (da_cons (dv 5) da_nil)) da_nil))) (de_tup (da_cons de_str (da_cons de_int da_nil)))) (ds_one (ds_ret de_bl)) ds_nil) (ds_one (ds_if (dt_cmp (c_ne rfl hr) (de_callD (ok__law_got (P := P) (w := w) (base := base) T) (hr.mono (by decide)) T.g__law_got tw (da_cons (dv 2) (da_cons (de_add (de_repL (de_lst (da_cons (de_tup (da_cons de_int (da_cons de_non da_nil))) da_nil)) de_int) (de_lst (da_cons (dv 5) da_nil))) da_nil))) (de_tup (da_cons de_str (da_cons de_int da_nil)))) (ds_one (ds_ret de_bl)) ds_nil)))) (ds_one (ds_ret de_bl))))))
theorem ok__law_many (T : Tx P w K mg ad cl) : DOk P w K mg base 6 (ad 34) ["_law_kinds"] (spD (Zz w K cl) f__law_many 1) := by
  obtain ⟨fd, F, bd⟩ := T.f__law_many
  refine ⟨⟨fd, fnD F sc__law_many (body := b__law_many) rfl rfl fun cdv A outer s H E hr => ?_, bd⟩, F.kp⟩
  have tk := L2N.takes_of (X := cxOf (L2N.CX P w) P w K mg base n__law_many "_law_many" (defScope s__law_many) (ad 34) cdv A outer s H E) (E := E) rfl rfl rfl rfl
  have tw := tw_of tk
  exact (ds_cons (ds_set (i := 1) sc__law_many.nd (de_ix rfl (dv 0) de_int)) (ds_cons (ds_set (i := 2) sc__law_many.nd (de_ix rfl (dv 0) de_int)) (ds_cons (ds_set (i := 3) sc__law_many.nd (de_ix rfl (dv 0) de_int)) (ds_cons (ds_if (dt_not (dt_val (de_callD (ok__law_same (P := P) (w := w) (base := base) T) (hr.mono (by decide)) T.g__law_same tw (da_cons (de_callS (ok_bare_core (P := P) (w := w) (base := base) T) (hr.mono (by decide)) T.g_bare_core tw (da_cons (dv 3) da_nil)) (da_cons (de_lst (da_cons (de_tup (da_cons (dv 3) (da_cons de_int da_nil))) da_nil)) (da_cons (de_repL (de_lst (da_cons (de_tup (da_cons de_int (da_cons de_non da_nil))) da_nil)) de_int) da_nil)))))) (ds_one (ds_ret de_bl)) ds_nil) (ds_cons (ds_setLcI (i := 4) (own := [("_law_kind", 7)]) rfl sc__law_many.nd (blkOk_by (own := [("_law_kind", 7)]) (N := n__law_many) (sc := defScope s__law_many) (by decide +kernel)) (by decide) (di_list rfl (de_lst (da_cons (dv 1) (da_cons (dv 2) (da_cons (dv 3) (da_cons (dv 3) (da_cons (dv 1) (da_cons (dv 2) (da_cons (dv 2) da_nil))))))))) (fun _ _ _ _ _ => (dg_name (i := 7) sc__law_many.nd)) (fun _ _ _ _ _ => dts_nil) (fun _ _ _ _ _ => (de_tup (da_cons (dv 7) (da_cons de_int da_nil))))) (ds_cons (ds_set (i := 5) sc__law_many.nd (de_callS (ok_bare_core (P := P) (w := w) (base := base) T) (hr.mono (by decide)) T.g_bare_core tw (da_cons (dv 1) (da_cons (dv 2) (da_cons (dv 3) (da_cons (dv 3) (da_cons (dv 1) (da_cons (dv 2) (da_cons (dv 2) da_nil))))))))) (ds_cons (ds_if (dt_not (dt_val (de_callD (ok__law_same (P := P) (w := w) (base := base) T) (hr.mono (by decide)) T.g__law_same tw (da_cons (dv 5) (da_cons (dv 4) (da_cons (de_repL (de_lst (da_cons (de_tup (da_cons de_int (da_cons de_non da_nil))) da_nil)) de_int) da_nil)))))) (ds_one (ds_ret de_bl)) ds_nil) (ds_cons (ds_setLcI (i := 4) (own := [("_law_kind", 7)]) rfl sc__law_many.nd (blkOk_by (own := [("_law_kind", 7)]) (N := n__law_many) (sc := defScope s__law_many) (by decide +kernel)) (by decide) (di_list rfl (de_repL (de_lst (da_cons (dv 1) (da_cons (dv 2) da_nil))) de_int)) (fun _ _ _ _ _ => (dg_name (i := 7) sc__law_many.nd)) (fun _ _ _ _ _ => dts_nil) (fun _ _ _ _ _ => (de_tup (da_cons (dv 7) (da_cons de_int da_nil))))) (ds_cons (ds_set (i := 5) sc__law_many.nd (de_callS (ok_bare_core (P := P) (w := w) (base := base) T) (hr.mono (by decide)) T.g_bare_core tw (da_cons (dv 1) (da_cons (dv 2) (da_cons (dv 1) (da_cons (dv 2) (da_cons (dv 1) (da_cons (dv 2) (da_cons (dv 1) (da_cons (dv 2) (da_cons (dv 1) (da_cons (dv 2) (da_cons (dv 1) (da_cons (dv 2) (da_cons (dv 1) (da_cons (dv 2) (da_cons (dv 1) (da_cons (dv 2) (da_cons (dv 1) (da_cons (dv 2) (da_cons (dv 1) (da_cons (dv 2) da_nil)))))))))))))))))))))) (ds_cons (ds_if (dt_not (dt_val (de_callD (ok__law_same (P := P) (w := w) (base := base) T) (hr.mono (by decide)) T.g__law_same tw (da_cons (dv 5) (da_cons (dv 4) (da_cons (de_repL (de_lst (da_cons (de_tup (da_cons de_int (da_cons de_non da_nil))) da_nil)) de_int) da_nil)))))) (ds_one (ds_ret de_bl)) ds_nil) (ds_cons (ds_try_as (i := 6) rfl rfl sc__law_many.nd rfl ⟨rfl, by decide, .inl T.g_BadCore⟩ tk T.xe_BadCore (fun W pn xe tkb hpb => (ds_one (ds_expr (de_callS (ok_bare_core (P := P) (w := w) (base := base) T) (hr.mono (by decide)) T.g_bare_core (tw_of tkb) (da_cons (dv 1) (da_cons (dv 2) (da_cons (dv 1) (da_cons (dv 2) (da_cons (dv 1) (da_cons (dv 2) (da_cons (dv 1) (da_cons (dv 2) (da_cons (dv 1) (da_cons (dv 2) (da_cons (dv 1) (da_cons (dv 2) (da_cons (dv 1) (da_cons (dv 2) (da_cons (dv 1) (da_cons (dv 2) (da_cons (dv 1) (da_cons (dv 2) (da_cons (dv 1) (da_cons (dv 2) (da_cons (dv 3) da_nil))))))))))))))))))))))))) (fun a oe c d pn hcn hzn hfl => (have hrh := L2H.roomH_mark hr (some (.ref a)); (ds_one (ds_ret (de_and (de_not (de_isX (T.xi _ hcn) (pe_glob (v := .ref (cl 1)) rfl T.g_BadLayer rfl) (fun _ r => r) (fun b h => by cases h; exact T.xk_BadLayer _ hcn) hzn hfl (dv 6) T.b_isinstance)) (de_one (de_not (de_isX (T.xi _ hcn) (pe_glob (v := .ref (cl 2)) rfl T.g_BadJoint rfl) (fun _ r => r) (fun b h => by cases h; exact T.xk_BadJoint _ hcn) hzn hfl (dv 6) T.b_isinstance))))))))) (ds_one (ds_ret de_bl)))))))))))))
theorem ok__law_open (T : Tx P w K mg ad cl) : DOk P w K mg base 6 (ad 35) ["_law_kinds"] (spD (Zz w K cl) f__law_open 1) := by
  obtain ⟨fd, F, bd⟩ := T.f__law_open
  refine ⟨⟨fd, fnD F sc__law_open (body := b__law_open) rfl rfl fun cdv A outer s H E hr => ?_, bd⟩, F.kp⟩
  have tk := L2N.takes_of (X := cxOf (L2N.CX P w) P w K mg base n__law_open "_law_open" (defScope s__law_open) (ad 35) cdv A outer s H E) (E := E) rfl rfl rfl rfl
  have tw := tw_of tk
  exact (ds_cons (ds_setLcI (i := 1) (own := [("_law_kind", 5)]) rfl sc__law_open.nd (blkOk_by (own := [("_law_kind", 5)]) (N := n__law_open) (sc := defScope s__law_open) (by decide +kernel)) (by decide) (di_list rfl (dv 0)) (fun _ _ _ _ _ => (dg_name (i := 5) sc__law_open.nd)) (fun _ _ _ _ _ => dts_nil) (fun _ _ _ _ _ => (de_tup (da_cons (dv 5) (da_cons de_int da_nil))))) (ds_cons (ds_set (i := 2) sc__law_open.nd (de_callS (ok_bare_core (P := P) (w := w) (base := base) T) (hr.mono (by decide)) T.g_bare_core tw (da_cons (de_ix rfl (dv 0) de_int) (da_cons (de_ix rfl (dv 0) de_int) da_nil)))) (ds_cons (ds_set (i := 3) sc__law_open.nd (de_makeD T.mk_Core (ok_Core___init__ (P := P) (w := w) (base := base) T) (hr.mono (by decide)) T.g_Core tw (da_cons (de_slice rfl (dv 1) dp_none (dp_some de_int)) (da_cons (de_repL (de_lst (da_cons (de_tup (da_cons de_int (da_cons de_non da_nil))) da_nil)) de_int) da_nil)) rfl)) (ds_cons (ds_if (PW.pt (dw_or (dt_cmp c_notB (de_cmpO (c_ownEq T.o_Core___eq__ (ok_Core___eq__ (P := P) (w := w) (base := base) T) (hr.mono (by decide)) tw) (dv 2) (dv 3)) de_bl) (dw_or1 (dt_cmp c_notB (de_cmpO (c_ownEq T.o_Core___eq__ (ok_Core___eq__ (P := P) (w := w) (base := base) T) (hr.mono (by decide)) tw) (dv 3) (dv 2)) de_bl)))) (ds_one (ds_ret de_bl)) ds_nil) (ds_cons (ds_if (dt_cmp (c_ne rfl hr) (de_methD0 (dv 2) T.k_Core T.m_Core_written (show ("written" : Str) ∉ flds 5 by decide +kernel) (ok_Core_written (P := P) (w := w) (base := base) T) (hr.mono (by decide)) tw) (de_methD0 (dv 3) T.k_Core T.m_Core_written (show ("written" : Str) ∉ flds 5 by decide +kernel) (ok_Core_written (P := P) (w := w) (base := base) T) (hr.mono (by decide)) tw)) (ds_one (ds_ret de_bl)) ds_nil) (ds_cons (ds_if (PW.pt (dw_or (dt_not (dt_val (de_callD (ok__law_same (P := P) (w := w) (base := base) T) (hr.mono (by decide)) T.g__law_same tw (da_cons (de_ownAdd T.o_Core___add__ (ok_Core___add__ (P := P) (w := w) (base := base) T) (hr.mono (by decide)) tw (dv 2) (de_makeN T.mk_Core (okn_Core___init__ (P := P) (w := w) (base := base) T) (hr.mono (by decide)) T.g_Core tw (da_cons (de_slice rfl (dv 1) (dp_some de_int) dp_none) da_nil) rfl)) (da_cons (dv 1) (da_cons (de_repL (de_lst (da_cons (de_tup (da_cons de_int (da_cons de_non da_nil))) da_nil)) de_int) da_nil)))))) (dw_or1 (dt_not (dt_val (de_callD (ok__law_same (P := P) (w := w) (base := base) T) (hr.mono (by decide)) T.g__law_same tw (da_cons (de_ownAdd T.o_Core___add__ (ok_Core___add__ (P := P) (w := w) (base := base) T) (hr.mono (by decide)) tw (de_makeN T.mk_Core (okn_Core___init__ (P := P) (w := w) (base := base) T) (hr.mono (by decide)) T.g_Core tw (da_cons (de_lst da_nil) da_nil) rfl) (dv 3)) (da_cons (de_slice rfl (dv 1) dp_none (dp_some de_int)) (da_cons (de_repL (de_lst (da_cons (de_tup (da_cons de_int (da_cons de_non da_nil))) da_nil)) de_int) da_nil))))))))) (ds_one (ds_ret de_bl)) ds_nil) (ds_cons (ds_set (i := 4) sc__law_open.nd (de_revL rfl (de_slice rfl (dv 1) dp_none (dp_some de_int)))) (ds_cons (ds_if (PW.pt (dw_or (dt_not (dt_val (de_callD (ok__law_same (P := P) (w := w) (base := base) T) (hr.mono (by decide)) T.g__law_same tw (da_cons (de_ownInv T.o1_Core___invert__ (ok_Core___invert__ (P := P) (w := w) (base := base) T) (hr.mono (by decide)) tw (dv 2)) (da_cons (dv 4) (da_cons (de_repL (de_lst (da_cons (de_tup (da_cons de_int (da_cons de_non da_nil))) da_nil)) de_int) da_nil)))))) (dw_or1 (dt_not (dt_val (de_callD (ok__law_same (P := P) (w := w) (base := base) T) (hr.mono (by decide)) T.g__law_same tw (da_cons (de_methD (dv 2) T.k_Core T.m_Core_turned (show ("turned" : Str) ∉ flds 5 by decide +kernel) (ok_Core_turned (P := P) (w := w) (base := base) T) (hr.mono (by decide)) tw (da_cons de_int (da_cons de_int da_nil))) (da_cons (dv 4) (da_cons (de_repL (de_lst (da_cons (de_tup (da_cons de_int (da_cons de_non da_nil))) da_nil)) de_int) da_nil))))))))) (ds_one (ds_ret de_bl)) ds_nil) (ds_one (ds_ret (de_callD (ok__law_same (P := P) (w := w) (base := base) T) (hr.mono (by decide)) T.g__law_same tw (da_cons (de_methK (dv 2) T.k_Core T.m_Core_narrowed (show ("narrowed" : Str) ∉ flds 5 by decide +kernel) (kw_Core_narrowed_1_least_most (P := P) (w := w) (base := base) T) (hr.mono (by decide)) tw (da_cons de_int da_nil) (pk_cons de_int (pk_cons de_int pk_nil))) (da_cons (de_slice rfl (dv 1) dp_none (dp_some de_int)) (da_cons (de_lst (da_cons (de_tup (da_cons de_int (da_cons de_non da_nil))) (da_cons (de_tup (da_cons de_int (da_cons de_int da_nil))) (da_cons (de_tup (da_cons de_int (da_cons de_non da_nil))) da_nil)))) da_nil))))))))))))))
theorem ok__law_bare (T : Tx P w K mg ad cl) : DOk P w K mg base 6 (ad 36) ["_law_kinds"] (spD (Zz w K cl) f__law_bare 1) := by
  obtain ⟨fd, F, bd⟩ := T.f__law_bare
  refine ⟨⟨fd, fnD F sc__law_bare (body := b__law_bare) rfl rfl fun cdv A outer s H E hr => ?_, bd⟩, F.kp⟩
  have tk := L2N.takes_of (X := cxOf (L2N.CX P w) P w K mg base n__law_bare "_law_bare" (defScope s__law_bare) (ad 36) cdv A outer s H E) (E := E) rfl rfl rfl rfl
  have tw := tw_of tk
  exact (ds_cons (ds_setLcI (i := 1) (own := [("_law_kind", 3)]) rfl sc__law_bare.nd (blkOk_by (own := [("_law_kind", 3)]) (N := n__law_bare) (sc := defScope s__law_bare) (by decide +kernel)) (by decide) (di_list rfl (dv 0)) (fun _ _ _ _ _ => (dg_name (i := 3) sc__law_bare.nd)) (fun _ _ _ _ _ => dts_nil) (fun _ _ _ _ _ => (de_tup (da_cons (dv 3) (da_cons de_int da_nil))))) (ds_cons (ds_if (dt_not (dt_val (de_callD (ok__law_same (P := P) (w := w) (base := base) T) (hr.mono (by decide)) T.g__law_same tw (da_cons (de_callS (ok_bare_core (P := P) (w := w) (base := base) T) (hr.mono (by decide)) T.g_bare_core tw (da_cons (de_ix rfl (dv 0) de_int) (da_cons (de_ix rfl (dv 0) de_int) (da_cons (de_ix rfl (dv 0) de_int) da_nil)))) (da_cons (dv 1) (da_cons (de_repL (de_lst (da_cons (de_tup (da_cons de_int (da_cons de_non da_nil))) da_nil)) de_int) da_nil)))))) (ds_one (ds_ret de_bl)) ds_nil) (ds_cons (ds_try_as (i := 2) rfl rfl sc__law_bare.nd rfl ⟨rfl, by decide, .inl T.g_BadLayer⟩ tk T.xe_BadLayer (fun W pn xe tkb hpb => (ds_one (ds_expr (de_callS (ok_bare_core (P := P) (w := w) (base := base) T) (hr.mono (by decide)) T.g_bare_core (tw_of tkb) (da_cons (de_ix rfl (dv 0) de_int) (da_cons (de_add de_str (de_ix rfl (dv 0) de_int)) (da_cons (de_ix rfl (dv 0) de_int) da_nil))))))) (fun a oe c d pn hcn hzn hfl => (have hrh := L2H.roomH_mark hr (some (.ref a)); (ds_one (ds_ret (de_and (de_callHD (okh__law_whole (P := P) (w := w) (base := base) T) (hrh.mono (by decide)) (hotC_suite hzn hfl) T.g__law_whole (da_cons (de_xf (xf_index T) hzn hfl (dv 2)) da_nil)) (de_and (de_cmpK (c_eqH rfl (hotUnits hrh)) (de_xf (xf_index T) hzn hfl (dv 2)) de_int) (de_one (de_callHD (okh__law_same (P := P) (w := w) (base := base) T) (hrh.mono (by decide)) (hotC_suite hzn hfl) T.g__law_same (da_cons (de_call0H (okh_bare_core (P := P) (w := w) (base := base) T) (hrh.mono (by decide)) (hotC_suite hzn hfl) T.g_bare_core tw_none) (da_cons (de_lst da_nil) (da_cons (de_lst (da_cons (de_tup (da_cons de_int (da_cons de_non da_nil))) da_nil)) da_nil)))))))))))) (ds_one (ds_ret de_bl)))))
theorem okF_law (T : Tx P w K mg ad cl) {fa : Addr} {fd : FuncData} (F : Fun K "law" "law" s_law fa fd) : FnOk P w K mg base (L2N.CX P w) 7 fa fd ["_law_script"] (spD (Zz w K cl) f_law 1) := by
  refine fnD F sc_law (body := b_law) rfl rfl fun cdv A outer s H E hr => ?_
  have tk := L2N.takes_of (X := cxOf (L2N.CX P w) P w K mg base n_law "law" (defScope s_law) fa cdv A outer s H E) (E := E) rfl rfl rfl rfl
  have tw := tw_of tk
  exact (ds_cons (ds_set (i := 1) sc_law.nd (de_callD (ok__law_pool (P := P) (w := w) (base := base) T) (hr.mono (by decide)) T.g__law_pool tw (da_cons (dv 0) (da_cons de_int da_nil)))) (ds_cons (ds_set (i := 2) sc_law.nd (de_callD (ok__law_draw (P := P) (w := w) (base := base) T) (hr.mono (by decide)) T.g__law_draw tw (da_cons (dv 1) (da_cons (de_ix rfl (de_lst (da_cons de_int (da_cons de_int da_nil))) (de_callD (ok__law_draw (P := P) (w := w) (base := base) T) (hr.mono (by decide)) T.g__law_draw tw (da_cons (dv 1) (da_cons de_int da_nil)))) da_nil)))) (ds_cons (ds_setLc (i := 3) (own := [("_law_k", 13)]) rfl sc_law.nd (blkOk_by (own := [("_law_k", 13)]) (N := n_law) (sc := defScope s_law) (by decide +kernel)) (by decide) (di_range1 T.b_range (da_cons (dv 2) da_nil)) (fun _ _ _ _ _ => (dg_name (i := 13) sc_law.nd)) (fun _ _ _ _ _ => dts_nil) (fun _ _ _ _ _ => (de_tup (da_cons (de_callD (ok__law_word (P := P) (w := w) (base := base) T) (hr.mono (by decide)) T.g__law_word tw_none (da_cons (dv 1) da_nil)) (da_cons (de_add de_int (de_callD (ok__law_number (P := P) (w := w) (base := base) T) (hr.mono (by decide)) T.g__law_number tw_none (da_cons (dv 1) da_nil))) da_nil))))) (ds_cons (ds_setLc (i := 4) (own := [("_law_k", 13)]) rfl sc_law.nd (blkOk_by (own := [("_law_k", 13)]) (N := n_law) (sc := defScope s_law) (by decide +kernel)) (by decide) (di_range1 T.b_range (da_cons (de_add (dv 2) (de_ix rfl (de_lst (da_cons de_int (da_cons de_int (da_cons de_int (da_cons de_int (da_cons de_int da_nil)))))) (de_callD (ok__law_draw (P := P) (w := w) (base := base) T) (hr.mono (by decide)) T.g__law_draw tw (da_cons (dv 1) (da_cons de_int da_nil))))) da_nil)) (fun _ _ _ _ _ => (dg_name (i := 13) sc_law.nd)) (fun _ _ _ _ _ => dts_nil) (fun _ _ _ _ _ => (de_callD (ok__law_bounds (P := P) (w := w) (base := base) T) (hr.mono (by decide)) T.g__law_bounds tw_none (da_cons (dv 1) da_nil)))) (ds_cons (ds_for (passes_of rfl) (di_range1 T.b_range (da_cons (de_callD (ok__law_draw (P := P) (w := w) (base := base) T) (hr.mono (by decide)) T.g__law_draw tw (da_cons (dv 1) (da_cons de_int da_nil))) da_nil)) (dg_name (i := 5) sc_law.nd) (ds_one (ds_if (dt_cmp c_gt (de_callB call_len (ok_len rfl) T.b_len PySem.boot_len (da_cons (dv 3) da_nil)) de_int) (ds_one (ds_setIx (dv 3) (de_callD (ok__law_draw (P := P) (w := w) (base := base) T) (hr.mono (by decide)) T.g__law_draw tw (da_cons (dv 1) (da_cons (dv 2) da_nil))) (de_callD (ok__law_odd_layer (P := P) (w := w) (base := base) T) (hr.mono (by decide)) T.g__law_odd_layer tw (da_cons (de_callD (ok__law_draw (P := P) (w := w) (base := base) T) (hr.mono (by decide)) T.g__law_draw tw (da_cons (dv 1) (da_cons de_int da_nil))) da_nil)))) ds_nil))) (ds_cons (ds_for (passes_of rfl) (di_range1 T.b_range (da_cons (de_callD (ok__law_draw (P := P) (w := w) (base := base) T) (hr.mono (by decide)) T.g__law_draw tw (da_cons (dv 1) (da_cons de_int da_nil))) da_nil)) (dg_name (i := 5) sc_law.nd) (ds_one (ds_if (dt_cmp c_gt (de_callB call_len (ok_len rfl) T.b_len PySem.boot_len (da_cons (dv 4) da_nil)) de_int) (ds_one (ds_setIx (dv 4) (de_callD (ok__law_draw (P := P) (w := w) (base := base) T) (hr.mono (by decide)) T.g__law_draw tw (da_cons (dv 1) (da_cons (de_callB call_len (ok_len rfl) T.b_len PySem.boot_len (da_cons (dv 4) da_nil)) da_nil))) (de_callD (ok__law_odd_joint (P := P) (w := w) (base := base) T) (hr.mono (by decide)) T.g__law_odd_joint tw (da_cons (de_callD (ok__law_draw (P := P) (w := w) (base := base) T) (hr.mono (by decide)) T.g__law_draw tw (da_cons (dv 1) (da_cons de_int da_nil))) da_nil)))) ds_nil))) (ds_cons (ds_if (dt_cmp (c_eq rfl hr) (de_callD (ok__law_draw (P := P) (w := w) (base := base) T) (hr.mono (by decide)) T.g__law_draw tw (da_cons (dv 1) (da_cons de_int da_nil))) de_int) (ds_one (ds_set (i := 4) sc_law.nd de_non)) ds_nil) (ds_cons (ds_setLcI (i := 6) (own := [("_law_k", 13)]) rfl sc_law.nd (blkOk_by (own := [("_law_k", 13)]) (N := n_law) (sc := defScope s_law) (by decide +kernel)) (by decide) (di_range1 T.b_range (da_cons de_int da_nil)) (fun _ _ _ _ _ => (dg_name (i := 13) sc_law.nd)) (fun _ _ _ _ _ => dts_nil) (fun _ _ _ _ _ => (de_callD (ok__law_word (P := P) (w := w) (base := base) T) (hr.mono (by decide)) T.g__law_word tw_none (da_cons (dv 1) da_nil)))) (ds_cons (ds_if (PW.pt (dw_or (dt_not (dt_val (de_callD (ok__law_whole (P := P) (w := w) (base := base) T) (hr.mono (by decide)) T.g__law_whole tw (da_cons (de_clsConI T.g_Core T.cr_Core T.cv_Core_MOST) da_nil)))) (dw_or (dt_cmp (c_ne rfl hr) (de_clsConI T.g_Core T.cr_Core T.cv_Core_MOST) de_int) (dw_or1 (dt_not (dt_val (de_callD (ok__law_bare (P := P) (w := w) (base := base) T) (hr.mono (by decide)) T.g__law_bare tw (da_cons (dv 6) da_nil)))))))) (ds_one (ds_ret de_bl)) ds_nil) (ds_cons (ds_if (PW.pt (dw_or (dt_not (dt_val (de_callD (ok__law_many (P := P) (w := w) (base := base) T) (hr.mono (by decide)) T.g__law_many tw (da_cons (dv 6) da_nil)))) (dw_or (dt_not (dt_val (de_callD (ok__law_open (P := P) (w := w) (base := base) T) (hr.mono (by decide)) T.g__law_open tw (da_cons (dv 6) da_nil)))) (dw_or1 (dt_not (dt_val (de_callD (ok__law_counts (P := P) (w := w) (base := base) T) (hr.mono (by decide)) T.g__law_counts tw (da_cons (dv 1) (da_cons (dv 6) da_nil))))))))) (ds_one (ds_ret de_bl)) ds_nil) (ds_cons (ds_if (dt_not (dt_val (de_callD (ok__law_signs (P := P) (w := w) (base := base) T) (hr.mono (by decide)) T.g__law_signs tw (da_cons (dv 1) (da_cons (de_ix rfl (dv 6) de_int) da_nil))))) (ds_one (ds_ret de_bl)) ds_nil) (ds_cons (ds_frzO (ds_frz (ds_set (i := 7) sc_law.nd (de_callD (ok__law_due (P := P) (w := w) (base := base) T) (hr.mono (by decide)) T.g__law_due tw (da_cons (dv 3) (da_cons (dv 4) da_nil)))))) (ds_cons (ds_set (i := 8) sc_law.nd (de_callD (ok__law_got (P := P) (w := w) (base := base) T) (hr.mono (by decide)) T.g__law_got tw (da_cons (dv 3) (da_cons (dv 4) da_nil)))) (ds_cons (ds_if (PW.pt (dw_or (dt_cmp (c_ne rfl hr) (dv 8) (dv 7)) (dw_or1 (dt_not (dt_val (de_callD (ok__law_whole (P := P) (w := w) (base := base) T) (hr.mono (by decide)) T.g__law_whole tw (da_cons (de_ix rfl (dv 8) de_int) da_nil))))))) (ds_one (ds_ret de_bl)) ds_nil) (ds_cons (ds_if (dt_cmp (c_ne rfl hr) (de_ix rfl (dv 7) de_int) de_str) (ds_one (ds_ret (de_callD (ok__law_base (P := P) (w := w) (base := base) T) (hr.mono (by decide)) T.g__law_base tw (da_cons (dv 3) (da_cons (dv 4) (da_cons (de_ix rfl (dv 7) de_int) da_nil)))))) ds_nil) (ds_cons (ds_set (i := 9) sc_law.nd (de_callTy call_list_of (ok_listC rfl) T.b_list (by decide +kernel) (da_cons (dv 3) da_nil))) (ds_cons (ds_if (dt_cmp c_isN (dv 4) de_non) (ds_cons (ds_set (i := 10) sc_law.nd (de_lst (da_cons (de_makeN T.mk_Core (okn_Core___init__ (P := P) (w := w) (base := base) T) (hr.mono (by decide)) T.g_Core tw (da_cons (dv 9) da_nil) rfl) (da_cons (de_makeD T.mk_Core (ok_Core___init__ (P := P) (w := w) (base := base) T) (hr.mono (by decide)) T.g_Core tw (da_cons (dv 9) (da_cons de_non da_nil)) rfl) (da_cons (de_makeK1 T.mk_Core (kwd_Core___init__ (P := P) (w := w) (base := base) T) (hr.mono (by decide)) T.g_Core (dv 9) de_non rfl) da_nil))))) (ds_one (ds_set (i := 4) sc_law.nd (de_repL (de_lst (da_cons (de_tup (da_cons de_int (da_cons de_non da_nil))) da_nil)) (de_add (dv 2) de_int))))) (ds_cons (ds_set (i := 11) sc_law.nd (de_callTy call_list_of (ok_listC rfl) T.b_list (by decide +kernel) (da_cons (dv 4) da_nil))) (ds_cons (ds_set (i := 10) sc_law.nd (de_lst (da_cons (de_makeD T.mk_Core (ok_Core___init__ (P := P) (w := w) (base := base) T) (hr.mono (by decide)) T.g_Core tw (da_cons (dv 9) (da_cons (dv 11) da_nil)) rfl) (da_cons (de_makeK1 T.mk_Core (kwd_Core___init__ (P := P) (w := w) (base := base) T) (hr.mono (by decide)) T.g_Core (dv 9) (dv 11) rfl) da_nil)))) (ds_cons (ds_if (dt_cmp (c_ne rfl hr) (dv 11) (dv 4)) (ds_one (ds_ret de_bl)) ds_nil) (ds_cons (ds_setIx (dv 11) de_int (de_tup (da_cons de_int (da_cons de_int da_nil)))) (ds_one (ds_expr (de_append rfl (dv 11) (de_tup (da_cons de_int (da_cons de_int da_nil))))))))))) (ds_cons (ds_if (dt_cmp (c_ne rfl hr) (dv 9) (dv 3)) (ds_one (ds_ret de_bl)) ds_nil) (ds_cons (ds_expr (de_append rfl (dv 9) (de_tup (da_cons de_str (da_cons de_int da_nil))))) (ds_cons (ds_setIx (dv 9) de_int (de_tup (da_cons de_str (da_cons de_int da_nil)))) (ds_cons (ds_for (passes_of rfl) (di_list rfl (dv 10)) (dg_name (i := 12) sc_law.nd) (ds_one (ds_if (dt_not (dt_val (de_callD (ok__law_same (P := P) (w := w) (base := base) T) (hr.mono (by decide)) T.g__law_same tw (da_cons (dv 12) (da_cons (dv 3) (da_cons (dv 4) da_nil)))))) (ds_one (ds_ret de_bl)) ds_nil))) (ds_one (ds_ret de_bl)))))))))))))))))))))))
end
end ZZ
set_option Elab.async false
set_option linter.all false
set_option maxRecDepth 100000
set_option maxHeartbeats 4000000
open Lean Parser Tactic in
local macro_rules
  | `(tactic| simp? only [$xs,*] $[$l]?) => do
    let es := xs.getElems.filter fun x => x.raw.getKind == ``simpErase
    let ks := (#[`mkD, `List.map_cons, `List.map_nil, `List.length_cons, `List.length_nil, `Nat.reduceAdd, `Nat.reduceSub, `List.replicate_succ, `List.replicate_zero, `List.cons_append, `List.nil_append, `sSeq, `sSet, `sRet, `sExp, `sDrop, `sIf, `sNil, `sFor, `eBin, `eUn, `eBind, `eV, `eC, `eArgs, `eAnd, `eOr, `eNot, `eIf, `eMth, `eTru, `kBool, `List.getElem?_cons_zero, `List.getElem?_cons_succ, `List.set_cons_zero, `List.set_cons_succ, `if_true, `if_false, `ite_true, `ite_false, `Bool.false_eq_true, `eq_self_iff_true, `reduceIte, `ims, `Option.map_some, `kTup, `kLst, `kLstC, `kCall, `List.all_cons, `List.all_nil, `plainV, `Bool.and_true, `Bool.true_and, `iExp, `iArgs, `itS, `itL, `itT, `itLT, `gN, `gT, `gL, `Option.bind_some, `frz, `ce_get, `ce_get0, `ce_set, `ce_set0, `ce_take, `asL, `asSq, `asIm, `truV, `kTru, `kAdd, `kSub, `kMod, `kLen, `kInt, `kMin, `kMax, `kCmp, `kIsB, `tyL, `tyS, `Option.isSome_some, `Bool.and_self, `beq_self_eq_true, `Option.isSome, `Bool.or_true, `Bool.true_or, `Bool.not_true, `Bool.not_false, `Bool.false_and, `Bool.and_false, `Bool.or_false, `Bool.false_or, `List.cons.injEq, `reduceCtorEq, `false_and, `and_false, `and_self, `and_true, `true_and, `decide_true, `decide_false, `Nat.reduceLeDiff, `LINE] : Array Name).filter fun n => !es.any fun e => e.raw[1].getId == n
    let ls ← ks.mapM fun n => `(simpLemma| $(mkIdent n):ident)
    let ys := (ls.map fun l => l.raw) ++ (xs.getElems.filter fun x => x.raw.getKind != ``simpErase).map fun x => x.raw
    let zs : Syntax.TSepArray [``simpStar, ``simpErase, ``simpLemma] "," := ⟨(mkNullNode (Syntax.mkSep ys (mkAtom ",")).getArgs).getArgs⟩
    `(tactic| simp only [$zs,*] $[$l]?)
namespace ZZ
open PySem PySem.Spec L2
abbrev Lay := List Nat × Int
abbrev Jnt := Int × Option Int
def okL (l : Lay) : Prop := 1 ≤ l.1.length ∧ l.1.length ≤ 12 ∧ (∀ c ∈ l.1, 97 ≤ c ∧ c ≤ 122) ∧ 1 ≤ l.2
def okJ (j : Jnt) : Prop := 0 ≤ j.1 ∧ ∀ m, j.2 = some m → j.1 ≤ m
def layD (l : Lay) : D := .tup [.str (st l.1), .int l.2]
def optD : Option Int → D
  | none => .non
  | some i => .int i
def jntD (j : Jnt) : D := .tup [.int j.1, optD j.2]
def laysD (ls : List Lay) : D := .lst (ls.map layD)
def jntsD (js : List Jnt) : D := .lst (js.map jntD)
def coreD (ls : List Lay) (js : List Jnt) : D := .ins c_Core [laysD ls, jntsD js]
structure OkC (ls : List Lay) (js : List Jnt) : Prop where
  l : ∀ l ∈ ls, okL l
  j : ∀ j ∈ js, okJ j
  n : ls.length ≤ 20
  m : js.length = ls.length + 1
section
variable {sl : Sl} {ce : List Cell} {ls ls2 : List Lay} {js js2 : List Jnt} {l : Lay} {j : Jnt}
theorem letters_cps : ("abcdefghijklmnopqrstuvwxyz" : Str).cps.toList = List.range' 97 26 := by decide +kernel
theorem lay0 : kIx (.im (layD l)) (.im (.int 0)) sl ce = .ok (.im (.str (st l.1))) ce := by rfl
theorem lay1 : kIx (.im (layD l)) (.im (.int 1)) sl ce = .ok (.im (.int l.2)) ce := by rfl
theorem jnt0 : kIx (.im (jntD j)) (.im (.int 0)) sl ce = .ok (.im (.int j.1)) ce := by rfl
theorem jnt1 : kIx (.im (jntD j)) (.im (.int 1)) sl ce = .ok (.im (optD j.2)) ce := by rfl
def okLb (l : Lay) : Bool := decide (1 ≤ l.1.length) && (decide (l.1.length ≤ 12) && (l.1.all (fun c => decide (97 ≤ c ∧ c ≤ 122)) && decide (1 ≤ l.2)))
def okJb (j : Jnt) : Bool := decide (0 ≤ j.1) && (match j.2 with
  | none => true
  | some m => decide (j.1 ≤ m))
theorem okLb_iff : okLb l = true ↔ okL l := by
  unfold okLb okL
  simp only [Bool.and_eq_true, decide_eq_true_eq, List.all_eq_true]
theorem okJb_iff : okJb j = true ↔ okJ j := by
  obtain ⟨a, m⟩ := j
  unfold okJb okJ
  cases m with
  | none => simp
  | some m => simp
theorem in_lettersX (c : Nat) : kInS false (.im (.str (st [c]))) (.im (.str "abcdefghijklmnopqrstuvwxyz")) sl ce = .ok (.im (.bl (decide (97 ≤ c ∧ c ≤ 122)))) ce := by
  have : decide (c ∈ List.range' 97 26) = decide (97 ≤ c ∧ c ≤ 122) := by
    refine decide_eq_decide.mpr ?_
    rw [List.mem_range'_1]
    omega
  unfold kInS st
  simp only [letters_cps, this]
  rfl
theorem kall_bls (xs : List Bool) : kAll [.im (.lst (xs.map .bl))] sl ce = .ok (.im (.bl (xs.all id))) ce := by
  have h : asBls (xs.map .bl) = some xs := by
    induction xs with
    | nil => rfl
    | cons x xs ih => rw [List.map_cons, asBls, ih]; rfl
  unfold kAll
  simp only [asL, h]
theorem m_islayerX (hl : l.1.length ≤ 1000) : f_is_layer [.im (layD l)] ce = .ok (.im (.bl (okLb l))) ce := by
  obtain ⟨cs, t⟩ := l
  simp only at hl
  have lc := fun (ce : List Cell) (sl : Sl) (h0 : sl[1]? = some (some (.im (.str (st cs))))) (hn : 3 < sl.length) => lc_map (own := [3]) (fi := iExp (eV 1) itS) (g := gN 3) (f := el_is_layer_0) (sl := sl) (ce := ce) cs (fun c => .str (st [c])) (fun c => .bl (decide (97 ≤ c ∧ c ≤ 122))) (by simp? only [h0, st_signs]) (by omega) (fun c hc acc => ⟨_, rfl, by
    have e3 : ((wipeD sl [3]).set 3 (some (.im (.str (st [c])))))[3]? = some (some (.im (.str (st [c])))) := by simp [wipeD, hn]
    unfold el_is_layer_0
    simp only [eBin, eBind, eV, e3, eC, in_lettersX c]⟩)
  have ka : ∀ sl ce, kAll [.im (.lst (cs.map fun c => D.bl (decide (97 ≤ c ∧ c ≤ 122))))] sl ce = .ok (.im (.bl (cs.all fun c => decide (97 ≤ c ∧ c ≤ 122)))) ce := fun sl ce => by
    have := kall_bls (sl := sl) (ce := ce) (cs.map fun c => decide (97 ≤ c ∧ c ≤ 122))
    rw [List.map_map, List.all_map] at this
    exact this
  have d1 : decide ((1 : Int) ≤ (cs.length : Int)) = decide (1 ≤ cs.length) := decide_eq_decide.mpr (by omega)
  have d2 : decide ((cs.length : Int) ≤ 12) = decide (cs.length ≤ 12) := decide_eq_decide.mpr (by omega)
  have le : ∀ (i j : Int) sl ce, kLe (.im (.int i)) (.im (.int j)) sl ce = .ok (.im (.bl (decide (i ≤ j)))) ce := fun _ _ _ _ => rfl
  have ge : ∀ (i j : Int) sl ce, kGe (.im (.int i)) (.im (.int j)) sl ce = .ok (.im (.bl (decide (j ≤ i)))) ce := fun _ _ _ _ => rfl
  unfold f_is_layer b_is_layer layD okLb
  simp only
  cases h1 : decide (1 ≤ cs.length) with
  | false => simp? only [-kCmp, gT, gL, gN, sAsg, eChain, st_len, show cs.length ≤ 16777216 by omega, le, d1, h1, finD, List.take_length]
  | true =>
    cases h2 : decide (cs.length ≤ 12) with
    | false => simp? only [-kCmp, gT, gL, gN, sAsg, eChain, st_len, show cs.length ≤ 16777216 by omega, le, d1, d2, h1, h2, finD, List.take_length]
    | true =>
      cases h3 : (cs.all fun c => decide (97 ≤ c ∧ c ≤ 122)) with
      | false => simp? only [-kCmp, gT, gL, gN, sAsg, eChain, st_len, show cs.length ≤ 16777216 by omega, le, d1, d2, h1, h2, lc, ka, h3, Nat.reduceLT, finD, List.take_length]
      | true => simp? only [-kCmp, gT, gL, gN, sAsg, eChain, st_len, show cs.length ≤ 16777216 by omega, le, ge, d1, d2, h1, h2, lc, ka, h3, Nat.reduceLT, finD, List.take_length]
theorem m_isjointX : f_is_joint [.im (jntD j)] ce = .ok (.im (.bl (okJb j))) ce := by
  obtain ⟨a, m⟩ := j
  have n0 : ∀ sl ce, kIsN false (.im .non) (.im .non) sl ce = .ok (.im (.bl true)) ce := fun _ _ => rfl
  have n1 : ∀ i sl ce, kIsN false (.im (.int i)) (.im .non) sl ce = .ok (.im (.bl false)) ce := fun _ _ _ => rfl
  have le : ∀ (i j : Int) sl ce, kLe (.im (.int i)) (.im (.int j)) sl ce = .ok (.im (.bl (decide (i ≤ j)))) ce := fun _ _ _ _ => rfl
  have ge : ∀ (i j : Int) sl ce, kGe (.im (.int i)) (.im (.int j)) sl ce = .ok (.im (.bl (decide (j ≤ i)))) ce := fun _ _ _ _ => rfl
  unfold f_is_joint b_is_joint jntD okJb
  simp only
  cases h1 : decide ((0 : Int) ≤ a) with
  | false => simp? only [-kCmp, gT, gL, gN, sAsg, ge, h1, finD, List.take_length]
  | true =>
    cases m with
    | none => simp? only [-kCmp, gT, gL, gN, sAsg, optD, ge, h1, n0, finD, List.take_length]
    | some m => simp? only [-kCmp, gT, gL, gN, sAsg, optD, ge, le, h1, n1, finD, List.take_length]
/-- the first that is not as it should be -/
def badF {α : Type} (p : α → Bool) : Nat → List α → Option Nat
  | _, [] => none
  | k, x :: xs => if p x then badF p (k + 1) xs else some k
theorem badF_none {α : Type} {p : α → Bool} : ∀ {k : Nat} {xs : List α}, badF p k xs = none ↔ ∀ x ∈ xs, p x = true
  | k, [] => by simp [badF]
  | k, x :: xs => by
    unfold badF
    cases h : p x with
    | false => simp [h]
    | true =>
      simp only [if_true]
      rw [badF_none]
      simp [h]
theorem cinit0X {V : Val} {dl : List D} (hV : asL ce V = some dl) (a0 a1 a2 a5 : Option Val) : ∀ (ls : List Lay) (k : Nat) (x3 x4 : Option Val), (∀ l ∈ ls, l.1.length ≤ 1000) →
    match badF okLb k ls with
    | none => ∃ y3 y4, forE (gT [gN 3, gN 4]) lp_Core___init___0 V dl (enF k (ls.map layD)) [a0, a1, a2, x3, x4, a5] ce = .nx [a0, a1, a2, y3, y4, a5] ce
    | some i => ∃ s', forE (gT [gN 3, gN 4]) lp_Core___init___0 V dl (enF k (ls.map layD)) [a0, a1, a2, x3, x4, a5] ce = .exc e_BadLayer [.int (i : Nat)] s' ce
  | [], k, x3, x4, h => ⟨x3, x4, by rw [List.map_nil, enF, forE, if_pos hV]⟩
  | l :: ls, k, x3, x4, h => by
    have ih := cinit0X hV a0 a1 a2 a5 ls (k + 1) (some (.im (.int (k : Nat)))) (some (.im (layD l))) fun x hx => h x (List.mem_cons_of_mem _ hx)
    have hl := fun ce => m_islayerX (ce := ce) (h l (List.mem_cons_self ..))
    unfold badF
    cases hb : okLb l with
    | true =>
      rw [hb] at hl
      simp only [if_true]
      have key : forE (gT [gN 3, gN 4]) lp_Core___init___0 V dl (enF k ((l :: ls).map layD)) [a0, a1, a2, x3, x4, a5] ce = forE (gT [gN 3, gN 4]) lp_Core___init___0 V dl (enF (k + 1) (ls.map layD)) [a0, a1, a2, some (.im (.int (k : Nat))), some (.im (layD l)), a5] ce := by
        rw [List.map_cons, enF, forE, if_pos hV]
        simp only [gT, gL, gN, List.set_cons_zero, List.set_cons_succ, Option.bind_some]
        unfold lp_Core___init___0
        simp? only [hl]
      rw [key]
      exact ih
    | false =>
      rw [hb] at hl
      simp only [Bool.false_eq_true, if_false]
      refine ⟨[a0, a1, a2, some (.im (.int (k : Nat))), some (.im (layD l)), a5], ?_⟩
      rw [List.map_cons, enF, forE, if_pos hV]
      simp only [gT, gL, gN, List.set_cons_zero, List.set_cons_succ, Option.bind_some]
      unfold lp_Core___init___0
      simp? only [hl, sRaise, sArgs, List.reverse_cons, List.reverse_nil]
theorem cinit1X {V : Val} {dl : List D} (hV : asL ce V = some dl) (a0 a1 a2 a4 : Option Val) : ∀ (js : List Jnt) (k : Nat) (x3 x5 : Option Val),
    match badF okJb k js with
    | none => ∃ y3 y5, forE (gT [gN 3, gN 5]) lp_Core___init___1 V dl (enF k (js.map jntD)) [a0, a1, a2, x3, a4, x5] ce = .nx [a0, a1, a2, y3, a4, y5] ce
    | some i => ∃ s', forE (gT [gN 3, gN 5]) lp_Core___init___1 V dl (enF k (js.map jntD)) [a0, a1, a2, x3, a4, x5] ce = .exc e_BadJoint [.int (i : Nat)] s' ce
  | [], k, x3, x5 => ⟨x3, x5, by rw [List.map_nil, enF, forE, if_pos hV]⟩
  | j :: js, k, x3, x5 => by
    have ih := cinit1X hV a0 a1 a2 a4 js (k + 1) (some (.im (.int (k : Nat)))) (some (.im (jntD j)))
    have hl := fun ce => m_isjointX (ce := ce) (j := j)
    unfold badF
    cases hb : okJb j with
    | true =>
      rw [hb] at hl
      simp only [if_true]
      have key : forE (gT [gN 3, gN 5]) lp_Core___init___1 V dl (enF k ((j :: js).map jntD)) [a0, a1, a2, x3, a4, x5] ce = forE (gT [gN 3, gN 5]) lp_Core___init___1 V dl (enF (k + 1) (js.map jntD)) [a0, a1, a2, some (.im (.int (k : Nat))), a4, some (.im (jntD j))] ce := by
        rw [List.map_cons, enF, forE, if_pos hV]
        simp only [gT, gL, gN, List.set_cons_zero, List.set_cons_succ, Option.bind_some]
        unfold lp_Core___init___1
        simp? only [hl]
      rw [key]
      exact ih
    | false =>
      rw [hb] at hl
      simp only [Bool.false_eq_true, if_false]
      refine ⟨[a0, a1, a2, some (.im (.int (k : Nat))), a4, some (.im (jntD j))], ?_⟩
      rw [List.map_cons, enF, forE, if_pos hV]
      simp only [gT, gL, gN, List.set_cons_zero, List.set_cons_succ, Option.bind_some]
      unfold lp_Core___init___1
      simp? only [hl, sRaise, sArgs, List.reverse_cons, List.reverse_nil]
theorem cell_of {k : Nat} {ds : List D} (h : asL ce (.cell k) = some ds) : ce[k]? = some (.lst ds) := by
  unfold asL at h
  simp only at h
  split at h
  · cases h
    assumption
  · cases h
theorem asL_app {V : Val} {ds : List D} (X : List Cell) (h : asL ce V = some ds) : asL (ce ++ X) V = some ds := by
  cases V with
  | im d => cases d with
    | lst xs => exact h
    | _ => cases h
  | exn c ds => cases h
  | cell k =>
    have e := cell_of h
    unfold asL
    simp only
    rw [List.getElem?_append_left (List.getElem?_eq_some_iff.mp e).1, e]
theorem nc_lst {V : Val} {ds : List D} {ce' : List Cell} (h : asL ce V = some ds) : kIsNC false V (.im .non) sl ce' = .ok (.im (.bl false)) ce' := by
  cases V with
  | exn c ds => cases h
  | cell k => rfl
  | im d => cases d with
    | lst xs => rfl
    | _ => cases h
theorem list_of {V : Val} {ds : List D} (h : asL ce V = some ds) : kListI [V] sl ce = .ok (.im (.lst ds)) ce := by
  cases V with
  | exn c ds => cases h
  | cell k =>
    unfold kListI
    simp only [asSq, cell_of h]
  | im d => cases d with
    | lst xs => cases h; rfl
    | _ => cases h
theorem len_of {V : Val} {ds : List D} (h : asL ce V = some ds) : kLen [V] sl ce = .ok (.im (.int (ds.length : Nat))) ce := by
  cases V with
  | exn c ds => cases h
  | cell k =>
    unfold kLen
    simp only [asSq, cell_of h]
  | im d => cases d with
    | lst xs => cases h; unfold kLen; simp only [asSq]
    | _ => cases h
def coreE (ls : List Lay) (jo : Option (List Jnt)) : Option (Nat × List D) := if 20 < ls.length then some (e_BadCore, []) else match badF okLb 0 ls with
  | some i => some (e_BadLayer, [.int (i : Nat)])
  | none => match jo with
    | none => none
    | some js => if js.length = ls.length + 1 then (match badF okJb 0 js with
      | some i => some (e_BadJoint, [.int (i : Nat)])
      | none => none) else some (e_BadCore, [])
def openJ (n : Nat) : List Jnt := List.replicate (n + 1) (0, none)
def jof (ls : List Lay) (jo : Option (List Jnt)) : List Jnt := jo.getD (openJ ls.length)
/-- the value that tells the joints -/
def JV (ce : List Cell) (V : Val) : Option (List Jnt) → Prop
  | none => V = .im .non
  | some js => asL ce V = some (js.map jntD)
theorem okJb_open (n : Nat) : badF okJb 0 (openJ n) = none := badF_none.mpr fun x hx => by
  rw [List.eq_of_mem_replicate hx]
  rfl
theorem cfld0 : kFld c_Core 0 (.im (coreD ls js)) sl ce = .ok (.im (laysD ls)) ce := by simp [kFld, coreD]
theorem cfld1 : kFld c_Core 1 (.im (coreD ls js)) sl ce = .ok (.im (jntsD js)) ce := by simp [kFld, coreD]
theorem isC_c : isC c_Core ce (.im (coreD ls js)) = true := rfl
theorem llen : kLen [.im (laysD ls)] sl ce = .ok (.im (.int (ls.length : Nat))) ce := by simp [kLen, laysD, asSq]
theorem jlen : kLen [.im (jntsD js)] sl ce = .ok (.im (.int (js.length : Nat))) ce := by simp [kLen, jntsD, asSq]
theorem lix {k : Nat} (h : ls[k]? = some l) : kIx (.im (laysD ls)) (.im (.int (k : Nat))) sl ce = .ok (.im (layD l)) ce := ix_lst (by rw [List.getElem?_map, h]; rfl)
theorem jix {k : Nat} (h : js[k]? = some j) : kIx (.im (jntsD js)) (.im (.int (k : Nat))) sl ce = .ok (.im (jntD j)) ce := ix_lst (by rw [List.getElem?_map, h]; rfl)
theorem m_clen (h : ls.length ≤ 1000) : kLenO c_Core f_Core___len__ (.im (coreD ls js)) sl ce = .ok (.im (.int (ls.length : Nat))) ce := by
  have e : f_Core___len__ [.im (coreD ls js)] ce = .ok (.im (.int (ls.length : Nat))) ce := by
    unfold f_Core___len__ b_Core___len__
    simp? only [-kLen, cfld0, llen, finD, List.take_length]
  have hb : (Nat.ble ((ls.length : Nat) : Int).natAbs 4611686018427387903 && decide (0 ≤ ((ls.length : Nat) : Int))) = true := by
    rw [Bool.and_eq_true, Nat.ble_eq, decide_eq_true_eq]
    omega
  unfold kLenO
  simp only [isC_c, e, if_true, hb]
theorem m_cget {k : Nat} (h : ls[k]? = some l) : kOwnIx c_Core f_Core___getitem__ (.im (coreD ls js)) (.im (.int (k : Nat))) sl ce = .ok (.im (layD l)) ce := by
  have hk := (List.getElem?_eq_some_iff.mp h).1
  have h1 : (0 : Int) ≤ (k : Int) := by omega
  have h2 : (k : Int) < (ls.length : Int) := by omega
  have ix := fun sl ce => lix (sl := sl) (ce := ce) h
  unfold kOwnIx
  simp only [isC_c, plainV, Bool.and_self, if_true]
  unfold f_Core___getitem__ b_Core___getitem__
  simp? only [-kLen, cfld0, llen, eChain, h1, h2, ix, finD, List.take_length]
theorem m_cjoint {k : Nat} (h : js[k]? = some j) : f_Core_joint [.im (coreD ls js), .im (.int (k : Nat))] ce = .ok (.im (jntD j)) ce := by
  have hk := (List.getElem?_eq_some_iff.mp h).1
  have h1 : (0 : Int) ≤ (k : Int) := by omega
  have h2 : (k : Int) < (js.length : Int) := by omega
  have ix := fun sl ce => jix (sl := sl) (ce := ce) h
  unfold f_Core_joint b_Core_joint
  simp? only [-kLen, cfld1, jlen, eChain, h1, h2, ix, finD, List.take_length]
def thick (ls : List Lay) : Int := (ls.map (·.2)).sum
theorem ints_asInts (l : List Int) : asInts (l.map D.int) = some l := by
  induction l with
  | nil => rfl
  | cons x l ih => rw [List.map_cons, asInts, ih]; rfl
theorem m_cthick (h : ls.length ≤ 1000) : kProp c_Core f_Core_thickness (.im (coreD ls js)) sl ce = .ok (.im (.int (thick ls))) ce := by
  have lc := fun (ce : List Cell) => lc_map (own := [1]) (fi := iExp (eUn (kFld c_Core 0) (eV 0)) itL) (g := gN 1) (f := el_Core_thickness_0) (sl := [some (.im (coreD ls js)), none]) (ce := ce) ls layD (fun l => .int l.2) (by simp? only [cfld0, laysD]) (by omega) (fun l hl acc => ⟨_, rfl, by
    unfold el_Core_thickness_0
    simp? only [wipeD, lay1]⟩)
  simp only [eUn] at lc
  have sm : ∀ sl ce, kSum [.im (.lst (ls.map fun l => D.int l.2))] sl ce = .ok (.im (.int (thick ls))) ce := fun sl ce => by
    have e : (ls.map fun l => D.int l.2) = (ls.map (·.2)).map D.int := by rw [List.map_map]; rfl
    unfold kSum thick
    simp only [asL, e, ints_asInts]
  unfold kProp
  simp only [isC_c, if_true]
  unfold f_Core_thickness b_Core_thickness
  simp? only [lc, sm, finD, List.take_length]
theorem strOk_st (cs : List Nat) (h : ∀ c ∈ cs, 97 ≤ c ∧ c ≤ 122) : PyData.strOk (st cs) = true := by
  unfold PyData.strOk st
  rw [← Array.all_toList]
  simp only [List.toList_toArray, List.all_eq_true]
  intro c hc
  have := h c hc
  simp
  omega
theorem lay_okD (h : okL l) (n : Nat) : okD (n + 1) (layD l) = true := by
  simp [layD, okD, okDs, strOk_st _ h.2.2.1]
theorem jnt_okD (n : Nat) : okD (n + 1) (jntD j) = true := by
  obtain ⟨a, m⟩ := j
  cases m <;> simp [jntD, optD, okD, okDs]
theorem lays_okD (h : ∀ l ∈ ls, okL l) : okD 60 (laysD ls) = true := by
  rw [laysD, okD]
  refine okDs_all fun d hd => ?_
  obtain ⟨l, hl, rfl⟩ := List.mem_map.mp hd
  exact lay_okD (h l hl) 58
theorem jnts_okD : okD 60 (jntsD js) = true := by
  rw [jntsD, okD]
  exact okDs_map jntD 59 (fun j => jnt_okD 58) js
theorem lays_refl (h : ∀ l ∈ ls, okL l) (neg : Bool) : kEqG neg (.im (laysD ls)) (.im (laysD ls)) sl ce = .ok (.im (.bl (!neg))) ce := by
  rw [eq_gd (lays_okD h) (lays_okD h), eqD_refl _ 60 (lays_okD h)]
  cases neg <;> rfl
theorem jnts_refl (neg : Bool) : kEqG neg (.im (jntsD js)) (.im (jntsD js)) sl ce = .ok (.im (.bl (!neg))) ce := by
  rw [eq_gd jnts_okD jnts_okD, eqD_refl _ 60 jnts_okD]
  cases neg <;> rfl
theorem lay_refl (h : okL l) (neg : Bool) : kEqG neg (.im (layD l)) (.im (layD l)) sl ce = .ok (.im (.bl (!neg))) ce := by
  rw [eq_gd (lay_okD h 59) (lay_okD h 59), eqD_refl _ 60 (lay_okD h 59)]
  cases neg <;> rfl
theorem jnt_refl (neg : Bool) : kEqG neg (.im (jntD j)) (.im (jntD j)) sl ce = .ok (.im (.bl (!neg))) ce := by
  rw [eq_gd (jnt_okD 59) (jnt_okD 59), eqD_refl _ 60 (jnt_okD 59)]
  cases neg <;> rfl
end
end ZZ
set_option Elab.async false
set_option linter.all false
set_option maxRecDepth 100000
set_option maxHeartbeats 4000000
namespace ZZ
open PySem PySem.Spec L2
section
variable {sl : Sl} {ce : List Cell} {ls : List Lay} {js : List Jnt} {jo : Option (List Jnt)} {V1 V2 : Val}
theorem sForE_ok {f : DE} {g : GD} {body : DSt} {V : Val} {ds : List D} (h : f sl ce = .ok V ce) (hV : asL ce V = some ds) : sForE f g body sl ce = forE g body V ds (enF 0 ds) sl ce := by
  unfold sForE
  simp only [h, hV, enF_eq]
theorem m_cinitX (h1 : asL ce V1 = some (ls.map layD)) (h2 : JV ce V2 jo) (hl : ∀ l ∈ ls, l.1.length ≤ 1000) (hn : ls.length ≤ 900) :
    f_Core___init__ [.cell ce.length, V1, V2] (ce ++ [.ins c_Core []]) = match coreE ls jo with
      | some e => .exc e.1 e.2 (ce ++ [.ins c_Core []])
      | none => .ok (.im .non) (ce ++ [.ins c_Core [laysD ls, jntsD (jof ls jo)]]) := by
  have g1 := asL_app [.ins c_Core []] h1
  have n1 := fun sl => len_of (sl := sl) g1
  have tk : ∀ (l : List Cell) (k : Nat), (ce ++ l).take (ce.length + k) = ce ++ l.take k := fun l k => List.take_length_add_append k
  rw [List.length_map] at n1
  have gt : ∀ (i j : Int) sl ce, kGt (.im (.int i)) (.im (.int j)) sl ce = .ok (.im (.bl (decide (j < i)))) ce := fun _ _ _ _ => rfl
  have c1 := fun sl => list_of (sl := sl) g1
  unfold f_Core___init__ b_Core___init__ coreE
  by_cases t1 : 20 < ls.length
  · rw [if_pos t1]
    have d1 : decide ((20 : Int) < (ls.length : Int)) = true := decide_eq_true (by omega)
    simp? only [-kLen, -kCmp, n1, gt, d1, sRaiseT, List.length_append, tk, List.take_succ_cons, List.take_zero, List.take_length]
  · rw [if_neg t1]
    have d1 : decide ((20 : Int) < (ls.length : Int)) = false := decide_eq_false (by omega)
    have lp := fun a2 => cinit0X (ce := ce ++ [.ins c_Core []]) g1 (some (.cell ce.length)) (some V1) a2 none ls 0 none none hl
    have f1 : ∀ a2 b3 b4 b5, sForE (eV 1) (gT [gN 3, gN 4]) lp_Core___init___0 [some (.cell ce.length), some V1, a2, b3, b4, b5] (ce ++ [.ins c_Core []]) = forE (gT [gN 3, gN 4]) lp_Core___init___0 V1 (ls.map layD) (enF 0 (ls.map layD)) [some (.cell ce.length), some V1, a2, b3, b4, b5] (ce ++ [.ins c_Core []]) := fun a2 b3 b4 b5 => sForE_ok rfl g1
    generalize hF1 : sForE (eV 1) (gT [gN 3, gN 4]) lp_Core___init___0 = F1 at f1 ⊢
    generalize hF2 : sForE (eV 2) (gT [gN 3, gN 5]) lp_Core___init___1 = F2
    cases hb : badF okLb 0 ls with
    | some i =>
      have lp := lp (some V2)
      rw [hb] at lp
      obtain ⟨s', lp⟩ := lp
      simp? only [-kLen, -kCmp, n1, gt, d1, f1, lp, List.length_append, tk, List.take_succ_cons, List.take_zero, List.take_length]
    | none =>
      have lp := lp (some V2)
      rw [hb] at lp
      obtain ⟨y3, y4, lp⟩ := lp
      cases jo with
      | none =>
        have h2 : V2 = .im .non := h2
        subst h2
        have nn : ∀ sl ce, kIsNC false (.im .non) (.im .non) sl ce = .ok (.im (.bl true)) ce := fun _ _ => rfl
        have rp : ∀ sl ce, kRepL (.im (.lst [.tup [.int 0, .non]])) (.im (.int ((ls.length : Int) + 1))) sl ce = .ok (.im (jntsD (openJ ls.length))) ce := fun sl ce => by
          unfold kRepL
          simp only
          rw [if_pos ⟨by decide, by omega, by omega⟩, show ((ls.length : Int) + 1).toNat = ls.length + 1 by omega]
          congr 3
          unfold openJ
          rw [List.map_replicate]
          simp [jntD, optD]
        have hl2 : (openJ ls.length).length = ls.length + 1 := by simp [openJ]
        have jl : ∀ sl ce, kLen [.im (jntsD (openJ ls.length))] sl ce = .ok (.im (.int ((ls.length : Int) + 1))) ce := fun sl ce => by
          unfold kLen jntsD
          simp only [asSq, List.length_map, hl2]
          rfl
        have ne : ∀ sl ce, kNe (.im (.int ((ls.length : Int) + 1))) (.im (.int ((ls.length : Int) + 1))) sl ce = .ok (.im (.bl false)) ce := fun sl ce => by
          show kEqG true _ _ sl ce = _
          rw [eq_int]
          simp
        have ad : ∀ sl ce, kAdd (.im (.int (ls.length : Nat))) (.im (.int 1)) sl ce = .ok (.im (.int ((ls.length : Int) + 1))) ce := fun _ _ => rfl
        have lq := cinit1X (ce := ce ++ [.ins c_Core []]) (V := .im (jntsD (openJ ls.length))) (dl := (openJ ls.length).map jntD) rfl (some (.cell ce.length)) (some V1) (some (.im (jntsD (openJ ls.length)))) y4 (openJ ls.length) 0 y3 none
        rw [okJb_open] at lq
        obtain ⟨z3, z5, lq⟩ := lq
        have f2 : ∀ b3 b4 b5, F2 [some (.cell ce.length), some V1, some (.im (jntsD (openJ ls.length))), b3, b4, b5] (ce ++ [.ins c_Core []]) = forE (gT [gN 3, gN 5]) lp_Core___init___1 (.im (jntsD (openJ ls.length))) ((openJ ls.length).map jntD) (enF 0 ((openJ ls.length).map jntD)) [some (.cell ce.length), some V1, some (.im (jntsD (openJ ls.length))), b3, b4, b5] (ce ++ [.ins c_Core []]) := fun b3 b4 b5 => by
          rw [← hF2]
          exact sForE_ok rfl rfl
        have c2 : ∀ sl ce, kListI [.im (jntsD (openJ ls.length))] sl ce = .ok (.im (jntsD (openJ ls.length))) ce := fun _ _ => rfl
        have g3 : ∀ X, asL (ce ++ [.ins c_Core [X]]) V1 = some (ls.map layD) := fun X => asL_app _ h1
        simp? only [-kLen, -kCmp, -kAdd, n1, gt, d1, f1, lp, nn, rp, jl, ad, ne, f2, lq, c1, c2, sFldSet, List.length_append, finD, tk, Nat.lt_irrefl, Nat.reduceLT, List.take_succ_cons, List.take_zero, List.take_length]
        rfl
      | some js =>
        have h2 : asL ce V2 = some (js.map jntD) := h2
        have g2 := asL_app [.ins c_Core []] h2
        have nn := fun sl => nc_lst (sl := sl) (ce' := ce ++ [.ins c_Core []]) g2
        have n2 := fun sl => len_of (sl := sl) g2
        rw [List.length_map] at n2
        have ad : ∀ sl ce, kAdd (.im (.int (ls.length : Nat))) (.im (.int 1)) sl ce = .ok (.im (.int ((ls.length : Int) + 1))) ce := fun _ _ => rfl
        have ne : ∀ sl ce, kNe (.im (.int (js.length : Nat))) (.im (.int ((ls.length : Int) + 1))) sl ce = .ok (.im (.bl (!decide (js.length = ls.length + 1)))) ce := fun sl ce => by
          show kEqG true _ _ sl ce = _
          rw [eq_int]
          simp only [if_true]
          congr 4
          exact decide_eq_decide.mpr (by omega)
        by_cases hm : js.length = ls.length + 1
        · rw [decide_eq_true hm] at ne
          simp only [if_pos hm]
          have lq := cinit1X (ce := ce ++ [.ins c_Core []]) g2 (some (.cell ce.length)) (some V1) (some V2) y4 js 0 y3 none
          have f2 : ∀ b3 b4 b5, F2 [some (.cell ce.length), some V1, some V2, b3, b4, b5] (ce ++ [.ins c_Core []]) = forE (gT [gN 3, gN 5]) lp_Core___init___1 V2 (js.map jntD) (enF 0 (js.map jntD)) [some (.cell ce.length), some V1, some V2, b3, b4, b5] (ce ++ [.ins c_Core []]) := fun b3 b4 b5 => by
            rw [← hF2]
            exact sForE_ok rfl g2
          cases hq : badF okJb 0 js with
          | some i =>
            rw [hq] at lq
            obtain ⟨s', lq⟩ := lq
            simp? only [-kLen, -kCmp, -kAdd, n1, n2, gt, d1, f1, lp, nn, ad, ne, f2, lq, List.length_append, tk, List.take_succ_cons, List.take_zero, List.take_length]
          | none =>
            rw [hq] at lq
            obtain ⟨z3, z5, lq⟩ := lq
            have g4 : asL (ce ++ [.ins c_Core [laysD ls]]) V2 = some (js.map jntD) := asL_app _ h2
            have c2 := fun sl => list_of (sl := sl) g4
            have el : D.lst (ls.map layD) = laysD ls := rfl
            have ej : D.lst (js.map jntD) = jntsD js := rfl
            rw [el] at c1
            rw [ej] at c2
            simp? only [-kLen, -kCmp, -kAdd, n1, n2, gt, d1, f1, lp, nn, ad, ne, f2, lq, c1, c2, sFldSet, List.length_append, finD, tk, Nat.lt_irrefl, Nat.reduceLT, List.take_succ_cons, List.take_zero, List.take_length]
            rfl
        · rw [decide_eq_false hm] at ne
          simp only [if_neg hm]
          simp? only [-kLen, -kCmp, -kAdd, n1, n2, gt, d1, f1, lp, nn, ad, ne, sRaiseT, List.length_append, tk, List.take_succ_cons, List.take_zero, List.take_length]
end
end ZZ
set_option Elab.async false
set_option linter.all false
set_option maxRecDepth 100000
set_option maxHeartbeats 4000000
namespace ZZ
open PySem PySem.Spec L2
section
variable {sl : Sl} {ce : List Cell} {ls ls2 : List Lay} {js js2 : List Jnt} {l : Lay} {j : Jnt} {jo : Option (List Jnt)} {V1 V2 : Val}
theorem coreE_of (h1 : ls.length ≤ 20) (h2 : ∀ l ∈ ls, okL l) (h3 : ∀ js, jo = some js → js.length = ls.length + 1 ∧ ∀ j ∈ js, okJ j) : coreE ls jo = none := by
  unfold coreE
  rw [if_neg (by omega), badF_none.mpr fun l hl => okLb_iff.mpr (h2 l hl)]
  cases jo with
  | none => rfl
  | some js =>
    obtain ⟨a, b⟩ := h3 js rfl
    simp only [if_pos a, badF_none.mpr fun j hj => okJb_iff.mpr (b j hj)]
theorem coreE_okc (h : coreE ls jo = none) : OkC ls (jof ls jo) := by
  unfold coreE at h
  split at h
  · cases h
  · rename_i h1
    split at h
    · cases h
    · rename_i h2
      have hl : ∀ l ∈ ls, okL l := fun l hl => okLb_iff.mp (badF_none.mp h2 l hl)
      cases jo with
      | none => exact ⟨hl, fun j hj => okJb_iff.mp (badF_none.mp (okJb_open ls.length) j hj), by omega, by simp [jof, openJ]⟩
      | some js =>
        simp only at h
        split at h
        · rename_i h3
          split at h
          · cases h
          · rename_i h4
            exact ⟨hl, fun j hj => okJb_iff.mp (badF_none.mp h4 j hj), by omega, h3⟩
        · cases h
theorem k_makeX (h1 : asL ce V1 = some (ls.map layD)) (h2 : JV ce V2 jo) (hl : ∀ l ∈ ls, l.1.length ≤ 1000) (hn : ls.length ≤ 900) (p1 : plainV V1 = true) (p2 : plainV V2 = true) :
    kMake c_Core 2 f_Core___init__ [V1, V2] sl ce = match coreE ls jo with
      | some e => .exc e.1 e.2 ce
      | none => .ok (.im (coreD ls (jof ls jo))) ce := by
  have e := m_cinitX h1 h2 hl hn
  unfold kMake
  simp only [List.all_cons, List.all_nil, p1, p2, Bool.and_self, if_true, e]
  cases coreE ls jo with
  | some e => simp
  | none => simp [coreD]
theorem k_makeN (h1 : asL ce V1 = some (ls.map layD)) (hl : ∀ l ∈ ls, l.1.length ≤ 1000) (hn : ls.length ≤ 900) (p1 : plainV V1 = true) :
    kMakeN c_Core 2 f_Core___init__ [V1] sl ce = match coreE ls none with
      | some e => .exc e.1 e.2 ce
      | none => .ok (.im (coreD ls (openJ ls.length))) ce := by
  have e := k_makeX (sl := sl) (jo := none) (V2 := .im .non) h1 rfl hl hn p1 rfl
  exact e
theorem k_makeQ (h1 : asL ce V1 = some (ls.map layD)) (h2 : JV ce V2 jo) (hl : ∀ l ∈ ls, l.1.length ≤ 1000) (hn : ls.length ≤ 900) (p1 : plainV V1 = true) (p2 : plainV V2 = true) (hok : coreE ls jo = none) :
    kMakeQ c_Core 2 f_Core___init__ [V1, V2] sl ce = .ok (.im (coreD ls (jof ls jo))) ce := by
  have e := k_makeX (sl := sl) h1 h2 hl hn p1 p2
  rw [hok] at e
  unfold kMakeQ
  rw [e]
theorem okL_len (h : okL l) : l.1.length ≤ 1000 := by
  have := h.2.1
  omega
theorem m_cmake (h : OkC ls js) : kMake c_Core 2 f_Core___init__ [.im (laysD ls), .im (jntsD js)] sl ce = .ok (.im (coreD ls js)) ce := by
  have n := h.n
  have e := k_makeX (sl := sl) (ce := ce) (ls := ls) (jo := some js) (V1 := .im (laysD ls)) (V2 := .im (jntsD js)) rfl rfl (fun l hl => okL_len (h.l l hl)) (by omega) rfl rfl
  rw [coreE_of h.n h.l fun js2 e => by cases e; exact ⟨h.m, h.j⟩] at e
  exact e
def bareL (ks : List (List Nat)) : List Lay := ks.map fun c => (c, 1)
theorem m_bare (ks : List (List Nat)) (hk : ∀ c ∈ ks, c.length ≤ 1000) (hn : ks.length ≤ 900) : f_bare_core (ks.map fun c => .im (.str (st c))) ce = match coreE (bareL ks) none with
      | some e => .exc e.1 e.2 ce
      | none => .ok (.im (coreD (bareL ks) (openJ ks.length))) ce := by
  have im : ims (ks.map fun c => Val.im (.str (st c))) = some (ks.map fun c => .str (st c)) := by
    induction ks with
    | nil => rfl
    | cons c ks ih =>
      rw [List.map_cons, List.map_cons]
      simp only [ims, ih (fun c hc => hk c (List.mem_cons_of_mem _ hc)) (by simp at hn; omega)]
      rfl
  have lc := lc_map (own := [1]) (fi := iExp (eV 0) itT) (g := gN 1) (f := el_bare_core_0) (sl := [some (.im (.tup (ks.map fun c => .str (st c)))), none]) (ce := ce) ks (fun c => .str (st c)) (fun c => layD (c, 1)) (by simp? only []) (by omega) (fun c hc acc => ⟨_, rfl, by
    unfold el_bare_core_0 layD
    simp? only [wipeD]⟩)
  have e0 : (ks.map fun c => layD (c, 1)) = (bareL ks).map layD := by unfold bareL; rw [List.map_map]; rfl
  rw [e0] at lc
  have mk := k_makeN (sl := [some (.im (.tup (ks.map fun c => .str (st c)))), none]) (ce := ce) (ls := bareL ks) (V1 := .im (.lst ((bareL ks).map layD))) rfl (fun l hl => by
    obtain ⟨c, hc, rfl⟩ := List.mem_map.mp hl
    exact hk c hc) (by unfold bareL; rw [List.length_map]; exact hn) rfl
  unfold f_bare_core mkDS
  simp only [List.drop_zero, im, List.length_map, List.take_zero, List.nil_append, Nat.zero_le, true_and]
  rw [if_pos (by unfold LINE; omega)]
  unfold b_bare_core
  generalize hF : eSettle (eLcC [1] (iExp (eV 0) itT) (gN 1) (eC (.bl true)) el_bare_core_0) = F at lc ⊢
  generalize hG : kMakeN c_Core 2 f_Core___init__ = G at mk ⊢
  have bl : (bareL ks).length = ks.length := by unfold bareL; rw [List.length_map]
  rw [bl] at mk
  cases hE : coreE (bareL ks) none with
  | some e =>
    rw [hE] at mk
    simp? only [lc, mk, List.take_length]
  | none =>
    rw [hE] at mk
    simp? only [lc, mk, finD, List.take_length]
end
end ZZ
set_option Elab.async false
set_option linter.all false
set_option maxRecDepth 100000
set_option maxHeartbeats 4000000
namespace ZZ
open PySem PySem.Spec L2
theorem mul_ok_l {i j : Int} (h : i.natAbs < 2 ^ 64) : mulOK i j = true := by
  unfold mulOK
  simp only [h, decide_true, Bool.true_or, Bool.or_true]
theorem mul_ok_r {i j : Int} (h : j.natAbs < 2 ^ 64) : mulOK i j = true := by
  unfold mulOK
  simp only [h, decide_true, Bool.or_true]
def mixI (c t : Int) : Int := (c * 97 * (t + 1) + 31 * t) % 1000003 + (c * 97 * (t + 1) + 31 * t) % 1000003 * ((c * 97 * (t + 1) + 31 * t) % 1000003) / 1013
theorem m_mix' (c t : Int) (ce : List Cell) (h0 : 0 ≤ t) (h1 : t < 2 ^ 60) : f__law_mix [.im (.int c), .im (.int t)] ce = .ok (.im (.int (mixI c t))) ce := by
  have e1 : mulOK c 97 = true := mul_ok_r (by decide)
  have e2 : mulOK (c * 97) (t + 1) = true := mul_ok_r (by omega)
  have e3 : mulOK 31 t = true := mul_ok_l (by decide)
  have e4 : ∀ x : Int, mulOK (x % 1000003) (x % 1000003) = true := fun x => mul_ok_r (by omega)
  unfold f__law_mix b__law_mix
  simp? only [kMul, kDiv, e1, e2, e3, e4, finD, List.take_length, Int.reduceLT]
  rfl
theorem m_draw (k : Nat) (ds : List Int) (b : Int) (ce : List Cell) (hk : ce[k]? = some (.lst (ds.map .int))) (hb : 0 < b) : ∃ r ds', 0 ≤ r ∧ r < b ∧ f__law_draw [.cell k, .im (.int b)] ce = .ok (.im (.int r)) (ce.set k (.lst (List.map D.int ds'))) := by
  unfold f__law_draw b__law_draw
  cases ds with
  | nil =>
    refine ⟨0, [], Int.le_refl _, hb, ?_⟩
    have e : ce.set k (.lst (List.map D.int [])) = ce := by
      refine List.ext_getElem? fun j => ?_
      by_cases hj : k = j
      · subst hj
        rw [List.getElem?_set_self (List.getElem?_eq_some_iff.mp hk).1, hk]
      · rw [List.getElem?_set_ne hj]
    rw [e]
    rw [List.map_nil] at hk
    have hz : ((0 : Nat) : Int) = 0 := rfl
    simp? only [hk, eq_int, hz, finD, List.take_length]
  | cons d ds =>
    refine ⟨d % b, ds, Int.emod_nonneg _ (by omega), Int.emod_lt_of_pos _ hb, ?_⟩
    rw [List.map_cons] at hk
    have e : ¬ (((D.int d :: ds.map D.int).length : Nat) : Int) = 0 := by rw [List.length_cons]; omega
    have e2 : seqIndex? 0 (D.int d :: ds.map D.int).length = some 0 := by
      unfold seqIndex?
      rw [List.length_cons]
      simp
      try omega
    have kp : ∀ sl, kPopAt (.cell k) [.im (.int 0)] sl ce = .ok (.im (.int d)) (ce.set k (.lst (ds.map D.int))) := fun sl => by
      unfold kPopAt
      simp only [hk, e2]
      rw [if_pos ⟨by decide, by decide⟩]
      rfl
    simp only [eTru, mkD, List.map_cons, List.map_nil, Nat.reduceAdd, Nat.reduceSub, List.replicate_succ, List.replicate_zero, List.cons_append, List.nil_append, sSeq, sSet, sRet, sExp, sDrop, sIf, sNil, sFor, eBin, eUn, eBind, eV, eC, eArgs, eAnd, eOr, eNot, eIf, eMth, eTru, kBool, List.getElem?_cons_zero, List.getElem?_cons_succ, List.set_cons_zero, List.set_cons_succ, if_true, if_false, ite_true, ite_false, Bool.false_eq_true, eq_self_iff_true, reduceIte, ims, Option.map_some, kTup, kLst, kLstC, kCall, List.all_cons, List.all_nil, plainV, Bool.and_true, Bool.true_and, iExp, iArgs, itS, itL, itT, itLT, gN, gT, gL, Option.bind_some, frz, ce_get, ce_get0, ce_set, ce_set0, ce_take, asL, asSq, asIm, truV, kTru, kAdd, kSub, kMod, kLen, kInt, kMin, kMax, kCmp, kIsB, tyL, tyS, Option.isSome_some, Bool.and_self, beq_self_eq_true, Option.isSome, Bool.or_true, Bool.true_or, Bool.not_true, Bool.not_false, Bool.false_and, Bool.and_false, Bool.or_false, Bool.false_or, List.cons.injEq, reduceCtorEq, false_and, and_false, and_self, and_true, true_and, decide_true, decide_false, Nat.reduceLeDiff, LINE, hk, eq_int, e, kp, hb, finD, set_take]
def scr (ns : List Int) : D := .wl (ns.map .int)
theorem pool_in (ns : List Int) (many seed : Option Val) (k : Nat) (v : Int) (hk : ns[k]? = some v) (g : Bool) (ce : List Cell) : ∀ (js : List Int) (ρ : Int) (ds : List Int) (x7 : Option Val), (∀ j ∈ js, 0 ≤ j ∧ j < 100) → ds.length + js.length < 16777216 →
    ∃ (ds' : List Int) (ρ' : Int) (y7 : Option Val), forD (gN 7) lp__law_pool_0 (js.map .int) [some (.im (scr ns)), many, some (.cell ce.length), seed, some (.im (.int k)), some (.im (.int ρ)), some (.im (.bl g)), x7] (ce ++ [.lst (ds.map .int)]) =
      .nx [some (.im (scr ns)), many, some (.cell ce.length), seed, some (.im (.int k)), some (.im (.int ρ')), some (.im (.bl g)), y7] (ce ++ [.lst (ds'.map D.int)]) ∧ ds'.length ≤ ds.length + js.length
  | [], ρ, ds, x7, hj, h => ⟨ds, ρ, x7, by rw [List.map_nil, forD], by simp⟩
  | j :: js, ρ, ds, x7, hj, h => by
    rw [List.length_cons] at h
    have hj0 := hj j (List.mem_cons_self ..)
    have ih := fun ρ ds x7 h => pool_in ns many seed k v hk g ce js ρ ds x7 (fun j hm => hj j (List.mem_cons_of_mem _ hm)) h
    have app : ∀ (x : Int) sl, kAppend (.cell ce.length) [.im (.int x)] sl (ce ++ [.lst (ds.map .int)]) = .ok (.im .non) (ce ++ [.lst ((ds ++ [x]).map .int)]) := fun x sl => by
      rw [app_ok (by rw [List.length_map]; show ds.length < 16777216; omega), List.map_append]
      rfl
    have ix : ∀ sl ce, kIx (.im (scr ns)) (.im (.int k)) sl ce = .ok (.im (.int v)) ce := fun sl ce => by
      unfold kIx scr
      have hlt := (List.getElem?_eq_some_iff.mp hk).1
      have e : atI (ns.map D.int) (k : Int) = some (.int v) := by
        unfold atI ixN
        rw [if_pos (by omega), if_pos (by rw [List.length_map]; omega), Int.toNat_natCast, Option.bind_some, List.getElem?_map, hk]
        rfl
      simp only [asSq, e]
    have go : ∀ (ρ2 : Int) (ds2 : List Int), ds2.length ≤ ds.length + 1 → lp__law_pool_0 [some (.im (scr ns)), many, some (.cell ce.length), seed, some (.im (.int k)), some (.im (.int ρ)), some (.im (.bl g)), some (.im (.int j))] (ce ++ [.lst (ds.map .int)]) = .nx [some (.im (scr ns)), many, some (.cell ce.length), seed, some (.im (.int k)), some (.im (.int ρ2)), some (.im (.bl g)), some (.im (.int j))] (ce ++ [.lst (ds2.map .int)]) →
        ∃ (ds' : List Int) (ρ' : Int) (y7 : Option Val), forD (gN 7) lp__law_pool_0 ((j :: js).map .int) [some (.im (scr ns)), many, some (.cell ce.length), seed, some (.im (.int k)), some (.im (.int ρ)), some (.im (.bl g)), x7] (ce ++ [.lst (ds.map .int)]) =
      .nx [some (.im (scr ns)), many, some (.cell ce.length), seed, some (.im (.int k)), some (.im (.int ρ')), some (.im (.bl g)), y7] (ce ++ [.lst (ds'.map D.int)]) ∧ ds'.length ≤ ds.length + (js.length + 1) := fun ρ2 ds2 hd2 hb => by
      obtain ⟨ds', ρ', y7, e, q⟩ := ih ρ2 ds2 (some (.im (.int j))) (by omega)
      refine ⟨ds', ρ', y7, ?_, by omega⟩
      rw [List.map_cons, forD]
      simp only [gN, List.set_cons_zero, List.set_cons_succ, hb]
      exact e
    rw [List.length_cons]
    cases g with
    | true =>
      by_cases hp : 0 < ρ
      · refine go (ρ / 1000003) (ds ++ [ρ % 1000003]) (by simp) ?_
        unfold lp__law_pool_0
        simp? only [kDiv, hp, app, Int.reduceLT]
      · refine go ρ ds (by omega) ?_
        unfold lp__law_pool_0
        simp? only [kDiv, hp, app, Int.reduceLT]
    | false =>
      by_cases hp : j < 6
      · have er := fun ce => m_mix' v j ce hj0.1 (by omega)
        refine go ρ (ds ++ [mixI v j]) (by simp) ?_
        unfold lp__law_pool_0
        simp? only [hp, ix, er, app]
      · refine go ρ ds (by omega) ?_
        unfold lp__law_pool_0
        simp? only [hp]
theorem m_ix (ns : List Int) (k : Nat) (v : Int) (hk : ns[k]? = some v) (sl : Sl) (ce : List Cell) : kIx (.im (scr ns)) (.im (.int k)) sl ce = .ok (.im (.int v)) ce := by
  unfold kIx scr
  have hlt := (List.getElem?_eq_some_iff.mp hk).1
  have e : atI (ns.map D.int) (k : Int) = some (.int v) := by
    unfold atI ixN
    rw [if_pos (by omega), if_pos (by rw [List.length_map]; omega), Int.toNat_natCast, Option.bind_some, List.getElem?_map, hk]
    rfl
  simp only [asSq, e]
theorem pool_out (ns : List Int) (hn : ns.length ≤ 63) (many : Option Val) (ce : List Cell) : ∀ (ks : List Nat) (s : Int) (ds : List Int) (x4 x5 x6 x7 : Option Val), (∀ k ∈ ks, k < ns.length) → ds.length + 60 * ks.length < 16777216 →
    ∃ (ds' : List Int) (s' : Int) (y4 y5 y6 y7 : Option Val), forD (gN 4) lp__law_pool_1 (ks.map fun (k : Nat) => D.int (k : Int)) [some (.im (scr ns)), many, some (.cell ce.length), some (.im (.int s)), x4, x5, x6, x7] (ce ++ [.lst (ds.map .int)]) =
      .nx [some (.im (scr ns)), many, some (.cell ce.length), some (.im (.int s')), y4, y5, y6, y7] (ce ++ [.lst (ds'.map D.int)]) ∧ ds'.length ≤ ds.length + 60 * ks.length
  | [], s, ds, x4, x5, x6, x7, hj, h => ⟨ds, s, x4, x5, x6, x7, by rw [List.map_nil, forD], by simp⟩
  | k :: ks, s, ds, x4, x5, x6, x7, hj, h => by
    rw [List.length_cons] at h
    have hk0 := hj k (List.mem_cons_self ..)
    have hv : ns[k]? = some ns[k] := List.getElem?_eq_getElem hk0
    generalize ns[k] = v at hv
    have kr := rng1 60 (by decide)
    have hpow : ∀ sl ce, kPow (.im (.int 10)) (.im (.int 18)) sl ce = .ok (.im (.int (10 ^ 18))) ce := fun sl ce => by
      unfold kPow
      simp only []
      rw [if_pos (by decide)]
      rfl
    have hmul : mulOK v ((k : Int) + 1) = true := mul_ok_r (by omega)
    obtain ⟨ds1, ρ1, y7, e1, q1⟩ := pool_in ns many (some (.im (.int ((s + v * ((k : Int) + 1)) % 1000003)))) k v hv (decide (10 ^ 18 ≤ (if v < 0 then -v else v))) ce ((List.range 60).map fun (i : Nat) => (i : Int)) (if v < 0 then -v else v) ds x7 (fun j hm => by
      obtain ⟨i, hi, rfl⟩ := List.mem_map.mp hm
      rw [List.mem_range] at hi
      omega) (by rw [List.length_map, List.length_range]; omega)
    rw [List.map_map] at e1
    rw [List.length_map, List.length_range] at q1
    have hf : (D.int ∘ fun (i : Nat) => (i : Int)) = fun (i : Nat) => D.int (i : Int) := rfl
    rw [hf] at e1
    obtain ⟨ds', s', z4, z5, z6, z7, e, q⟩ := pool_out ns hn many ce ks ((s + v * ((k : Int) + 1)) % 1000003) ds1 (some (.im (.int k))) (some (.im (.int ρ1))) (some (.im (.bl (decide (10 ^ 18 ≤ (if v < 0 then -v else v)))))) y7 (fun k hm => hj k (List.mem_cons_of_mem _ hm)) (by omega)
    refine ⟨ds', s', z4, z5, z6, z7, ?_, by rw [List.length_cons]; omega⟩
    rw [List.map_cons, forD]
    simp only [gN, List.set_cons_zero, List.set_cons_succ]
    rw [← e]
    unfold lp__law_pool_1
    have kr' : kRng1 [.im (.int 60)] = some ((List.range 60).map fun (i : Nat) => D.int (i : Int)) := kr
    simp? only [kMul, kAbs, m_ix ns k v hv, hmul, hpow, kr', e1, Int.reduceLT]
theorem pool_fill (many : Nat) (hm : many ≤ 1000) (a0 a4 a5 a6 : Option Val) (s : Int) (ce : List Cell) : ∀ (js : List D) (ds : List Int) (x7 : Option Val), ds.length + js.length < 16777216 →
    ∃ (ds' : List Int) (y7 : Option Val), forD (gN 7) lp__law_pool_2 js [a0, some (.im (.int many)), some (.cell ce.length), some (.im (.int s)), a4, a5, a6, x7] (ce ++ [.lst (ds.map .int)]) =
      .nx [a0, some (.im (.int many)), some (.cell ce.length), some (.im (.int s)), a4, a5, a6, y7] (ce ++ [.lst (ds'.map D.int)])
  | [], ds, x7, h => ⟨ds, x7, by rw [forD]⟩
  | j :: js, ds, x7, h => by
    rw [List.length_cons] at h
    have app : ∀ (x : Int) sl, kAppend (.cell ce.length) [.im (.int x)] sl (ce ++ [.lst (ds.map .int)]) = .ok (.im .non) (ce ++ [.lst ((ds ++ [x]).map .int)]) := fun x sl => by
      rw [app_ok (by rw [List.length_map]; show ds.length < 16777216; omega), List.map_append]
      rfl
    rw [forD]
    simp only [gN, List.set_cons_zero, List.set_cons_succ]
    by_cases hl : ds.length < many
    · obtain ⟨ds', y7, e⟩ := pool_fill many hm a0 a4 a5 a6 s ce js (ds ++ [mixI s ds.length]) (some (.im j)) (by rw [List.length_append, List.length_singleton]; omega)
      refine ⟨ds', y7, ?_⟩
      rw [← e]
      have hl' : (ds.length : Int) < (many : Int) := by omega
      have er := fun ce => m_mix' s ds.length ce (by omega) (by omega)
      unfold lp__law_pool_2
      simp? only [List.length_map, hl', er, app]
    · obtain ⟨ds', y7, e⟩ := pool_fill many hm a0 a4 a5 a6 s ce js ds (some (.im j)) (by omega)
      refine ⟨ds', y7, ?_⟩
      rw [← e]
      have hl' : ¬ (ds.length : Int) < (many : Int) := by omega
      unfold lp__law_pool_2
      simp? only [List.length_map, hl']
theorem m_pool (ns : List Int) (hn : ns.length ≤ 63) (many : Nat) (hm : many ≤ 1000) (ce : List Cell) : ∃ ds : List Int, f__law_pool [.im (scr ns), .im (.int many)] ce = .ok (.cell ce.length) (ce ++ [.lst (ds.map .int)]) := by
  obtain ⟨ds1, s1, y4, y5, y6, y7, e1, q1⟩ := pool_out ns hn (some (.im (.int many))) ce (List.range ns.length) 0 [] none none none none (fun k h => List.mem_range.mp h) (by rw [List.length_range]; simp; omega)
  rw [List.length_range, List.length_nil] at q1
  obtain ⟨ds2, z7, e2⟩ := pool_fill many hm (some (.im (scr ns))) y4 y5 y6 s1 ce ((List.range many).map fun (i : Nat) => D.int (i : Int)) ds1 y7 (by rw [List.length_map, List.length_range]; omega)
  refine ⟨ds2, ?_⟩
  have hmin : ∀ (sl : Sl) (ce : List Cell), kMin [.im (.int (ns.length : Int)), .im (.int 63)] sl ce = .ok (.im (.int (ns.length : Int))) ce := fun sl ce => by
    unfold kMin
    have : ¬ (63 : Int) < (ns.length : Int) := by omega
    simp only [this, if_false, eC]
  have k1 := rng1 ns.length (by omega)
  have k2 := rng1 many (by omega)
  rw [List.map_nil] at e1
  have hlen : ∀ (sl : Sl) (ce : List Cell), kLen [.im (scr ns)] sl ce = .ok (.im (.int (ns.length : Int))) ce := fun sl ce => by
    unfold kLen scr
    simp only [asSq, List.length_map]
  unfold f__law_pool b__law_pool
  simp? only [-kLen, -kMin, hlen, hmin, k1, k2, e1, e2, finD, Nat.lt_irrefl]
end ZZ
set_option Elab.async false
set_option linter.all false
set_option maxRecDepth 100000
set_option maxHeartbeats 4000000
namespace ZZ
open PySem PySem.Spec L2
section
variable {sl : Sl} {ce : List Cell}
theorem set_get {k : Nat} {c c2 : Cell} (h : ce[k]? = some c) : (ce.set k c2)[k]? = some c2 := by
  rw [List.getElem?_set_self (List.getElem?_eq_some_iff.mp h).1]
theorem num_loop (k : Nat) : ∀ (items : List D) (n : Int) (ds : List Int) (ce : List Cell) (x1 x3 : Option Val), ce[k]? = some (.lst (ds.map .int)) →
    ∃ n' ds' y3, forD (gN 3) lp__law_number_0 items [some (.cell k), x1, some (.im (.int n)), x3] ce = .nx [some (.cell k), x1, some (.im (.int n')), y3] (ce.set k (.lst (List.map D.int ds')))
  | [], n, ds, ce, x1, x3, hk => ⟨n, ds, x3, by rw [forD, set_same hk]⟩
  | d :: items, n, ds, ce, x1, x3, hk => by
    obtain ⟨r, ds1, b, c, e⟩ := m_draw k ds 1000003 ce hk (by decide)
    obtain ⟨n', ds', y3, e2⟩ := num_loop k items (n * 1000003 + r) ds1 (ce.set k (.lst (ds1.map .int))) x1 (some (.im d)) (set_get hk)
    refine ⟨n', ds', y3, ?_⟩
    rw [List.set_set] at e2
    have mk : mulOK n 1000003 = true := mul_ok_r (by decide)
    have ml : ∀ sl ce, kMul (.im (.int n)) (.im (.int 1000003)) sl ce = .ok (.im (.int (n * 1000003))) ce := fun sl ce => by
      unfold kMul
      simp only [mk, if_true]
    rw [← e2, forD]
    simp only [gN, List.set_cons_zero, List.set_cons_succ]
    unfold lp__law_number_0
    simp? only [-kMul, ml, e]
theorem m_number (k : Nat) (ds : List Int) (ce : List Cell) (hk : ce[k]? = some (.lst (ds.map .int))) : ∃ n ds', 0 ≤ n ∧ n < 1000000000000000000000000000000 ∧ f__law_number [.cell k] ce = .ok (.im (.int n)) (ce.set k (.lst (List.map D.int ds'))) := by
  obtain ⟨r1, ds1, b1, c1, e1⟩ := m_draw k ds 8 ce hk (by decide)
  obtain ⟨r2, ds2, b2, c2, e2⟩ := m_draw k ds1 5 (ce.set k (.lst (ds1.map .int))) (set_get hk) (by decide)
  rw [List.set_set] at e2
  have h2 : (ce.set k (.lst (ds2.map .int)))[k]? = some (.lst (ds2.map .int)) := set_get hk
  have k5 : kRng1 [.im (.int 5)] = some [.int 0, .int 1, .int 2, .int 3, .int 4] := rng1 5 (by decide)
  have pw : ∀ sl ce, kPow (.im (.int 10)) (.im (.int 30)) sl ce = .ok (.im (.int 1000000000000000000000000000000)) ce := fun _ _ => rfl
  have md : ∀ (n : Int) sl ce, kMod (.im (.int n)) (.im (.int 1000000000000000000000000000000)) sl ce = .ok (.im (.int (n % 1000000000000000000000000000000))) ce := fun n sl ce => by
    unfold kMod
    simp
  have mb : ∀ n : Int, 0 ≤ n % 1000000000000000000000000000000 ∧ n % 1000000000000000000000000000000 < 1000000000000000000000000000000 := fun n => ⟨Int.emod_nonneg _ (by decide), Int.emod_lt_of_pos _ (by decide)⟩
  have hn : k < ce.length := (List.getElem?_eq_some_iff.mp hk).1
  by_cases h4 : r1 = 4
  · obtain ⟨n', ds', y3, e3⟩ := num_loop k [.int 0, .int 1, .int 2, .int 3, .int 4] r2 ds2 (ce.set k (.lst (ds2.map .int))) (some (.im (.int r1))) none h2
    rw [List.set_set, h4] at e3
    refine ⟨n' % 1000000000000000000000000000000, ds', (mb n').1, (mb n').2, ?_⟩
    unfold f__law_number b__law_number
    simp? only [-kMod, e1, h4, e2, eq_int, k5, e3, pw, md, finD, set_take]
  · refine ⟨r2 % 1000000000000000000000000000000, ds2, (mb r2).1, (mb r2).2, ?_⟩
    unfold f__law_number b__law_number
    simp? only [-kMod, e1, h4, e2, eq_int, pw, md, finD, set_take]
def okK (cs : List Nat) : Prop := 1 ≤ cs.length ∧ cs.length ≤ 12 ∧ ∀ c ∈ cs, 97 ≤ c ∧ c ≤ 122
end
end ZZ
set_option Elab.async false
set_option linter.all false
set_option maxRecDepth 100000
set_option maxHeartbeats 4000000
namespace ZZ
open PySem PySem.Spec L2
section
variable {sl : Sl} {ce : List Cell} {ls : List Lay} {js : List Jnt}
theorem m_whole (i : Int) : f__law_whole [.im (.int i)] ce = .ok (.im (.bl true)) ce := by
  have h1 : ∀ sl ce, kIsi i_int (.im (.int i)) sl ce = .ok (.im (.bl true)) ce := fun _ _ => rfl
  have h2 : ∀ sl ce, kIsi i_bool (.im (.int i)) sl ce = .ok (.im (.bl false)) ce := fun _ _ => rfl
  unfold f__law_whole b__law_whole
  simp? only [h1, h2, finD, List.take_length]
theorem thick_take {k : Nat} {l : Lay} (h : ls[k]? = some l) : thick (ls.take (k + 1)) = thick (ls.take k) + l.2 := by
  unfold thick
  rw [List.take_succ, h]
  simp
theorem same1 (hl : ∀ l ∈ ls, okL l) (a2 a6 : Option Val) : ∀ (m k : Nat) (x4 x5 : Option Val), k + m = ls.length → ∃ y4 y5, forD (gN 4) lp__law_same_1 ((List.range' k m).map fun (i : Nat) => D.int (i : Int)) [some (.im (coreD ls js)), some (.im (laysD ls)), a2, some (.im (.int (thick (ls.take k)))), x4, x5, a6] ce =
    .nx [some (.im (coreD ls js)), some (.im (laysD ls)), a2, some (.im (.int (thick ls))), y4, y5, a6] ce
  | 0, k, x4, x5, h => ⟨x4, x5, by rw [List.range'_zero, List.map_nil, forD, List.take_of_length_le (by omega)]⟩
  | m + 1, k, x4, x5, h => by
    obtain ⟨l, hk⟩ : ∃ l, ls[k]? = some l := ⟨_, List.getElem?_eq_getElem (by omega)⟩
    have ho := hl l (List.mem_of_getElem? hk)
    obtain ⟨y4, y5, e⟩ := same1 hl a2 a6 m (k + 1) (some (.im (.int (k : Nat)))) (some (.im (layD l))) (by omega)
    refine ⟨y4, y5, ?_⟩
    have g := fun sl ce => m_cget (sl := sl) (ce := ce) (js := js) hk
    have ix := fun sl ce => lix (sl := sl) (ce := ce) hk
    have tu : ∀ sl ce, kIsi i_tuple (.im (layD l)) sl ce = .ok (.im (.bl true)) ce := fun _ _ => rfl
    have rf := fun sl ce => lay_refl (sl := sl) (ce := ce) ho true
    have ai : ∀ (i j : Int) sl ce, kAdd (.im (.int i)) (.im (.int j)) sl ce = .ok (.im (.int (i + j))) ce := fun i j sl ce => rfl
    rw [← e, List.range'_succ, List.map_cons, forD, thick_take hk]
    simp only [gN, List.set_cons_zero, List.set_cons_succ]
    unfold lp__law_same_1
    simp? only [-kAdd, ai, g, ix, tu, rf, lay1, m_whole, Bool.not_true]
theorem same2 (hj : ∀ j ∈ js, okJ j) (a1 a3 a5 : Option Val) : ∀ (m k : Nat) (x4 x6 : Option Val), k + m = js.length → ∃ y4 y6, forD (gN 4) lp__law_same_2 ((List.range' k m).map fun (i : Nat) => D.int (i : Int)) [some (.im (coreD ls js)), a1, some (.im (jntsD js)), a3, x4, a5, x6] ce =
    .nx [some (.im (coreD ls js)), a1, some (.im (jntsD js)), a3, y4, a5, y6] ce
  | 0, k, x4, x6, h => ⟨x4, x6, by rw [List.range'_zero, List.map_nil, forD]⟩
  | m + 1, k, x4, x6, h => by
    obtain ⟨j, hk⟩ : ∃ j, js[k]? = some j := ⟨_, List.getElem?_eq_getElem (by omega)⟩
    obtain ⟨y4, y6, e⟩ := same2 hj a1 a3 a5 m (k + 1) (some (.im (.int (k : Nat)))) (some (.im (jntD j))) (by omega)
    refine ⟨y4, y6, ?_⟩
    have g := fun ce => m_cjoint (ce := ce) (ls := ls) hk
    have ix := fun sl ce => jix (sl := sl) (ce := ce) hk
    have tu : ∀ sl ce, kIsi i_tuple (.im (jntD j)) sl ce = .ok (.im (.bl true)) ce := fun _ _ => rfl
    have rf := fun sl ce => jnt_refl (sl := sl) (ce := ce) (j := j) true
    have n0 : ∀ sl ce, kIsN true (.im .non) (.im .non) sl ce = .ok (.im (.bl false)) ce := fun _ _ => rfl
    have n1 : ∀ i sl ce, kIsN true (.im (.int i)) (.im .non) sl ce = .ok (.im (.bl true)) ce := fun _ _ _ => rfl
    rw [← e, List.range'_succ, List.map_cons, forD]
    simp only [gN, List.set_cons_zero, List.set_cons_succ]
    unfold lp__law_same_2
    cases hm : j.2 with
    | none => simp? only [isC_c, kMeth, g, ix, tu, rf, jnt0, jnt1, hm, optD, n0, m_whole, Bool.not_true]
    | some v => simp? only [isC_c, kMeth, g, ix, tu, rf, jnt0, jnt1, hm, optD, n1, m_whole, Bool.not_true]
theorem m_same (h : OkC ls js) : f__law_same [.im (coreD ls js), .im (laysD ls), .im (jntsD js)] ce = .ok (.im (.bl true)) ce := by
  have hn := h.n
  have hm := h.m
  have ic : ∀ sl ce, kIsi i_Core (.im (coreD ls js)) sl ce = .ok (.im (.bl true)) ce := fun _ _ => rfl
  have cl := fun sl ce => m_clen (sl := sl) (ce := ce) (ls := ls) (js := js) (by omega)
  have th := fun sl ce => m_cthick (sl := sl) (ce := ce) (ls := ls) (js := js) (by omega)
  have lc := fun (ce : List Cell) => lc_map (own := [5]) (fi := iExp (eV 0) (itO c_Core 0)) (g := gN 5) (f := el__law_same_0) (sl := [some (.im (coreD ls js)), some (.im (laysD ls)), some (.im (jntsD js)), none, none, none, none]) (ce := ce) ls layD layD (by
    simp? only [itO, coreD, laysD]) (by omega) (fun l hl acc => ⟨_, rfl, by
    unfold el__law_same_0
    simp? only [wipeD]⟩)
  have hd : D.lst (ls.map layD) = laysD ls := rfl
  simp only [hd] at lc
  have rf := fun sl ce => lays_refl (sl := sl) (ce := ce) h.l true
  have k1 : kRng1 [.im (.int (ls.length : Nat))] = some ((List.range' 0 ls.length).map fun (i : Nat) => D.int (i : Int)) := by rw [rng1 _ (by omega), List.range_eq_range']
  have k2 : kRng1 [.im (.int (js.length : Nat))] = some ((List.range' 0 js.length).map fun (i : Nat) => D.int (i : Int)) := by rw [rng1 _ (by omega), List.range_eq_range']
  obtain ⟨y4, y5, e1⟩ := same1 (js := js) (ce := ce) h.l (some (.im (jntsD js))) none ls.length 0 none none (by omega)
  obtain ⟨z4, z6, e2⟩ := same2 (ls := ls) (ce := ce) h.j (some (.im (laysD ls))) (some (.im (.int (thick ls)))) y5 js.length 0 y4 none (by omega)
  have t0 : thick (ls.take 0) = 0 := rfl
  rw [t0] at e1
  have d1 : decide ((ls.length : Int) = (ls.length : Int)) = true := decide_eq_true rfl
  have d2 : decide (thick ls = thick ls) = true := decide_eq_true rfl
  unfold f__law_same b__law_same
  simp? only [-kLen, ic, cl, llen, jlen, eq_int, d1, lc, rf, k1, e1, k2, e2, th, m_whole, d2, finD, List.take_length, Bool.not_true]
end
end ZZ
set_option Elab.async false
set_option linter.all false
set_option maxRecDepth 100000
set_option maxHeartbeats 4000000
namespace ZZ
open PySem PySem.Spec L2
section
variable {sl : Sl} {ce : List Cell} {x y : Str} {N : Nat}
def dig (c : Nat) : Bool := decide (48 ≤ c) && decide (c ≤ 57)
/-- the number that a word tells -/
def pn (x : Str) : Option Int :=
  if TL.tl x = [] ∨ (TL.tl x).all dig = false then none else if (TL.tl x).head? = some 48 ∧ TL.tl x ≠ [48] then none else some ((NumText.digitsVal (TL.tl x) : Nat) : Int)
/-- signs that may be compared, and not too many -/
structure Fi (N : Nat) (x : Str) : Prop where
  ok : PyData.strOk x = true
  len : (TL.tl x).length ≤ N
theorem sok_iff : PyData.strOk x = true ↔ ∀ c ∈ TL.tl x, c < 0x110000 := by
  unfold PyData.strOk
  rw [← Array.all_toList, List.all_eq_true]
  exact ⟨fun h c hc => of_decide_eq_true (h c hc), fun h c hc => decide_eq_true (h c hc)⟩
theorem Fi.mono {M : Nat} (h : Fi N x) (l : N ≤ M) : Fi M x := ⟨h.ok, Nat.le_trans h.len l⟩
theorem fi_app {M : Nat} (h : Fi N x) (g : Fi M y) : Fi (N + M) (x ++ y) := by
  refine ⟨sok_iff.mpr fun c q => ?_, ?_⟩
  · rw [TL.tl_append] at q
    rcases List.mem_append.mp q with z | z
    · exact sok_iff.mp h.ok c z
    · exact sok_iff.mp g.ok c z
  · rw [TL.tl_append, List.length_append]
    have := h.len
    have := g.len
    omega
theorem sp_tl : TL.tl (" " : Str) = [32] := by decide +kernel
theorem one_tl (c : Nat) : TL.tl (⟨#[c]⟩ : Str) = [c] := rfl
theorem asStrs_map : ∀ l : List Str, asStrs (l.map D.str) = some l
  | [] => rfl
  | a :: l => by
    rw [List.map_cons]
    simp only [asStrs, asStrs_map l]
    rfl
theorem k_join {v : Val} {l : List Str} (hv : asL ce v = some (l.map .str)) (hl : (l.map (·.length)).sum + l.length * y.length ≤ 16777216) : kJoin (.im (.str y)) [v] sl ce = .ok (.im (.str (Txt.join y l))) ce := by
  unfold kJoin
  simp only [hv, asStrs_map, if_pos hl]
theorem k_app (h : (TL.tl x).length + (TL.tl y).length ≤ 1000) : kAdd (.im (.str x)) (.im (.str y)) sl ce = .ok (.im (.str (x ++ y))) ce := by
  have hx : x.length + y.length ≤ LINE := by
    rw [TL.len_tl, TL.len_tl]
    exact Nat.le_trans h (by decide)
  unfold kAdd
  simp only [if_pos hx]
theorem num_head : ∀ n : Nat, (TL.numL n).head? = some 48 → TL.numL n = [48] := by
  intro n
  induction n using Nat.strongRecOn with
  | ind n ih =>
    intro h
    by_cases hn : n < 10
    · rw [TL.numL_lt hn] at h ⊢
      have h : 48 + n = 48 := Option.some.inj h
      rw [h]
    · have hs := TL.numL_step (n := n) (by omega)
      rw [hs] at h
      have hne := TL.numL_ne (n / 10)
      obtain ⟨c, r, e⟩ : ∃ c r, TL.numL (n / 10) = c :: r := by
        cases e : TL.numL (n / 10) with
        | nil => exact absurd e hne
        | cons c r => exact ⟨c, r, rfl⟩
      rw [e] at h
      have h1 : (TL.numL (n / 10)).head? = some 48 := by
        rw [e]
        exact h
      have h2 := ih (n / 10) (by omega) h1
      have h3 : TL.numL (n / 10) = TL.numL 0 := by
        rw [h2, TL.numL_lt (by decide)]
      have := TL.numL_inj h3
      omega
def nw (n : Nat) : Str := Str.ofString (toString ((n : Nat) : Int))
theorem nw_tl (n : Nat) : TL.tl (nw n) = TL.numL n := TL.tl_num n
theorem nw_dig (n : Nat) : (TL.tl (nw n)).all dig = true := by
  rw [nw_tl, List.all_eq_true]
  intro c hc
  have h := TL.numL_digits n c hc
  unfold dig
  rw [Bool.and_eq_true, decide_eq_true_eq, decide_eq_true_eq]
  exact h
theorem nw_pn (n : Nat) : pn (nw n) = some (n : Int) := by
  have h1 : TL.tl (nw n) ≠ [] := by
    rw [nw_tl]
    exact TL.numL_ne n
  unfold pn
  rw [if_neg (fun z => z.elim h1 fun q => by rw [nw_dig n] at q; cases q), if_neg (fun z => ?_)]
  · rw [nw_tl, TL.numL_val]
  · rw [nw_tl] at z
    exact z.2 (num_head n z.1)
theorem nw_fi {n k : Nat} (hk : 0 < k) (h : n < 10 ^ k) : Fi k (nw n) := by
  refine ⟨sok_iff.mpr fun c hc => ?_, ?_⟩
  · rw [nw_tl] at hc
    have := TL.numL_digits n c hc
    omega
  · rw [nw_tl]
    exact TL.numL_len hk h
theorem nw_free {n s : Nat} (h : s < 48 ∨ 57 < s) : s ∉ TL.tl (nw n) := by
  rw [nw_tl]
  exact TL.numL_free h
theorem log_lt {n : Nat} (h : n < 10 ^ 61) : n.log2 < 1920 := by
  by_cases h0 : n = 0
  · rw [h0]
    decide
  · exact (Nat.log2_lt h0).mpr (Nat.lt_trans h (by decide +kernel))
end
section
variable {sl : Sl} {ce : List Cell} {x y : Str} {N s : Nat}
def mkS (l : List Nat) : Str := ⟨l.toArray⟩
theorem mkS_tl (l : List Nat) : TL.tl (mkS l) = l := rfl
theorem mkS_of (x : Str) : mkS (TL.tl x) = x := TL.mk_tl x
theorem cut_eq {a b : List Nat} (hy : TL.tl y = [s]) (e : TL.tl x = a ++ s :: b) : x = mkS a ++ y ++ mkS b := by
  refine TL.ext_tl ?_
  rw [TL.tl_append, TL.tl_append, mkS_tl, mkS_tl, hy, e, List.append_assoc]
  rfl
theorem part_at {a b : List Nat} (hy : TL.tl y = [s]) (e : TL.tl x = a ++ s :: b) (hn : s ∉ a) : Txt.partition x y = (mkS a, y, mkS b) := by
  rw [cut_eq hy e]
  exact TL.partition_app (S := []) hy hn
end
end ZZ
set_option Elab.async false
set_option linter.all false
set_option maxRecDepth 100000
set_option maxHeartbeats 4000000
namespace ZZ
open PySem PySem.Spec L2
end ZZ
set_option Elab.async false
set_option linter.all false
set_option maxRecDepth 100000
set_option maxHeartbeats 4000000
namespace ZZ
open PySem PySem.Spec L2
section
variable {sl : Sl} {ce : List Cell} {x y : Str} {N s : Nat} {t : Int}
theorem da_tl : TL.tl ("-" : Str) = [45] := by decide +kernel
theorem co_tl : TL.tl (":" : Str) = [58] := by decide +kernel
theorem pn_star (h : TL.tl x = [42]) : pn x = none := by
  unfold pn
  rw [h, if_pos (.inr (by decide))]
/-- the joint that two words tell -/
def jOf (a b : Str) : Option Jnt := match pn a with
  | none => none
  | some n => match pn b with
    | some m => if n ≤ m then some (n, some m) else none
    | none => if TL.tl b = [42] then some (n, none) else none
def pj (x : Str) : Option Jnt := jOf (Txt.partition x "-").1 (Txt.partition x "-").2.2
end
end ZZ
set_option Elab.async false
set_option linter.all false
set_option maxRecDepth 100000
set_option maxHeartbeats 4000000
namespace ZZ
open PySem PySem.Spec L2
section
variable {sl : Sl} {ce : List Cell} {x y : Str} {N s : Nat} {t : Int}
def lett (c : Nat) : Bool := decide (97 ≤ c) && decide (c ≤ 122)
def okB (k : Str) (t : Int) : Bool := (decide (1 ≤ (TL.tl k).length) && decide ((TL.tl k).length ≤ 12)) && ((TL.tl k).all lett && decide (1 ≤ t))
def lOf (a b : Str) : Option Lay := match pn b with
  | none => none
  | some t => if okB a t = true then some (TL.tl a, t) else none
def pl (x : Str) : Option Lay := lOf (Txt.partition x ":").1 (Txt.partition x ":").2.2
end
end ZZ
set_option Elab.async false
set_option linter.all false
set_option maxRecDepth 100000
set_option maxHeartbeats 4000000
namespace ZZ
open PySem PySem.Spec L2
section
variable {sl : Sl} {ce : List Cell} {x y p : Str} {N s : Nat} {t : Int} {ls l2 : List Lay} {js j2 : List Jnt} {P : List Str}
def stepRk (k : Nat) (p : Str) (ls : List Lay) (js : List Jnt) : Option (List Lay × List Jnt) := if k % 2 = 0 then (match pj p with
    | none => none
    | some j => some (ls, js ++ [j])) else (match pl p with
    | none => none
    | some l => if ls.length = 20 then none else some (ls ++ [l], js))
/-- where the reading stops (0: nowhere) and what it has read -/
def rdL : Nat → List Str → List Lay → List Jnt → Nat × List Lay × List Jnt
  | _, [], ls, js => (0, ls, js)
  | k, p :: ps, ls, js => match stepRk k p ls js with
    | none => (k + 1, ls, js)
    | some (l2, j2) => rdL (k + 1) ps l2 j2
theorem eqi2 (i j : Int) : kEq (.im (.int i)) (.im (.int j)) sl ce = .ok (.im (.bl (decide (i = j)))) ce := by
  show kEqG false _ _ sl ce = _
  rw [eq_int]
  rfl
theorem no_non : kIsN false (.im .non) (.im .non) sl ce = .ok (.im (.bl true)) ce := rfl
end
end ZZ
set_option Elab.async false
set_option linter.all false
set_option maxRecDepth 100000
set_option maxHeartbeats 4000000
namespace ZZ
open PySem PySem.Spec L2
section
variable {sl : Sl} {ce : List Cell} {x y p : Str} {N : Nat} {P Q : List Str} {ce0 : List Cell}
theorem m_drawc (ds : List Int) (b : Int) (ce0 : List Cell) (hb : 0 < b) : ∃ (r : Int) (ds' : List Int), 0 ≤ r ∧ r < b ∧ f__law_draw [.cell 0, .im (.int b)] (.lst (ds.map .int) :: ce0) = .ok (.im (.int r)) (.lst (ds'.map .int) :: ce0) := by
  obtain ⟨r, ds', h0, h1, e⟩ := m_draw 0 ds b (.lst (ds.map .int) :: ce0) rfl hb
  exact ⟨r, ds', h0, h1, e⟩
theorem m_numc (ds : List Int) (ce0 : List Cell) : ∃ (n : Nat) (ds' : List Int), n < 10 ^ 30 ∧ f__law_number [.cell 0] (.lst (ds.map .int) :: ce0) = .ok (.im (.int (n : Nat))) (.lst (ds'.map .int) :: ce0) := by
  obtain ⟨n, ds', h0, h1, e⟩ := m_number 0 ds (.lst (ds.map .int) :: ce0) rfl
  have p : (10 : Nat) ^ 30 = 1000000000000000000000000000000 := by decide
  have en : ((n.toNat : Nat) : Int) = n := by omega
  refine ⟨n.toNat, ds', by omega, ?_⟩
  rw [en]
  exact e
theorem tk1 (c : Cell) : List.take (ce0.length + 1) (c :: ce0) = c :: ce0 := by rw [List.take_succ_cons, List.take_length]
theorem ix_let (r : Int) (h0 : 0 ≤ r) (h1 : r < 26) : ∃ c : Nat, (97 ≤ c ∧ c ≤ 122) ∧ ∀ sl ce, kIx (.im (.str "abcdefghijklmnopqrstuvwxyz")) (.im (.int r)) sl ce = .ok (.im (.str ⟨#[c]⟩)) ce := by
  obtain ⟨n, rfl⟩ : ∃ n : Nat, r = (n : Int) := ⟨r.toNat, by omega⟩
  have hg : (TL.tl ("abcdefghijklmnopqrstuvwxyz" : Str))[n]? = some (97 + n) := by
    have : TL.tl ("abcdefghijklmnopqrstuvwxyz" : Str) = List.range' 97 26 := letters_cps
    rw [this, List.getElem?_range' (by omega), Nat.one_mul]
  refine ⟨97 + n, by omega, fun sl ce => ?_⟩
  have hx : ("abcdefghijklmnopqrstuvwxyz" : Str).length ≤ LINE := by decide +kernel
  have e0 : atI (TL.tl ("abcdefghijklmnopqrstuvwxyz" : Str)) ((n : Nat) : Int) = some (97 + n) := atI_nat _ _ _ hg
  unfold kIx
  simp only [if_pos hx, e0]
theorem da_fi : Fi 1 ("-" : Str) := ⟨by decide +kernel, by decide +kernel⟩
theorem co_fi : Fi 1 (":" : Str) := ⟨by decide +kernel, by decide +kernel⟩
theorem ds_fi : Fi 2 ("-*" : Str) := ⟨by decide +kernel, by decide +kernel⟩
end
end ZZ
set_option Elab.async false
set_option linter.all false
set_option maxRecDepth 100000
set_option maxHeartbeats 4000000
namespace ZZ
open PySem PySem.Spec L2
section
variable {sl : Sl} {ce : List Cell} {x y p : Str} {N : Nat} {l : Lay} {j : Jnt} {ls l2 : List Lay} {js j2 : List Jnt}
structure BL (l : Lay) : Prop where
  ok : okL l
  lt : l.2.toNat < 10 ^ 61
structure BJ (j : Jnt) : Prop where
  ok : okJ j
  lt : j.1.toNat < 10 ^ 61
  lm : ∀ m, j.2 = some m → m.toNat < 10 ^ 61
def wl (l : Lay) : Str := st l.1 ++ ":" ++ nw l.2.toNat
def wj (j : Jnt) : Str := match j.2 with
  | none => nw j.1.toNat ++ "-*"
  | some m => nw j.1.toNat ++ "-" ++ nw m.toNat
theorem BL.int (h : BL l) : l.2 = ((l.2.toNat : Nat) : Int) := by
  have := h.ok.2.2.2
  omega
theorem BJ.int (h : BJ j) : j.1 = ((j.1.toNat : Nat) : Int) := by
  have := h.ok.1
  omega
theorem BJ.int2 (h : BJ j) {m : Int} (e : j.2 = some m) : m = ((m.toNat : Nat) : Int) := by
  have h1 := h.ok.1
  have h2 := h.ok.2 m e
  omega
theorem st_tl (cs : List Nat) : TL.tl (st cs) = cs := rfl
theorem st_fi (h : okL l) : Fi 12 (st l.1) := ⟨sok_iff.mpr fun c hc => by
  have := h.2.2.1 c hc
  omega, h.2.1⟩
theorem wl_fi (h : BL l) : Fi 74 (wl l) := (fi_app (fi_app (st_fi h.ok) co_fi) (nw_fi (by decide) h.lt)).mono (by decide)
theorem wj_fi (h : BJ j) : Fi 123 (wj j) := by
  unfold wj
  have fa := nw_fi (k := 61) (by decide) h.lt
  cases hj : j.2 with
  | none => exact (fi_app fa ds_fi).mono (by decide)
  | some m => exact (fi_app (fi_app fa da_fi) (nw_fi (k := 61) (by decide) (h.lm m hj))).mono (by decide)
theorem ds_tl : TL.tl ("-*" : Str) = [45, 42] := by decide +kernel
theorem wl_free (h : BL l) : 32 ∉ TL.tl (wl l) := fun hm => by
  unfold wl at hm
  rw [TL.tl_append, TL.tl_append] at hm
  rcases List.mem_append.mp hm with z | z
  · rcases List.mem_append.mp z with y | y
    · have := h.ok.2.2.1 32 y
      omega
    · rw [co_tl] at y
      simp at y
  · exact nw_free (by decide) z
theorem wj_free (j : Jnt) : 32 ∉ TL.tl (wj j) := fun hm => by
  unfold wj at hm
  cases hj : j.2 with
  | none =>
    rw [hj] at hm
    simp only at hm
    rw [TL.tl_append] at hm
    rcases List.mem_append.mp hm with z | z
    · exact nw_free (by decide) z
    · rw [ds_tl] at z
      simp at z
  | some m =>
    rw [hj] at hm
    simp only at hm
    rw [TL.tl_append, TL.tl_append] at hm
    rcases List.mem_append.mp hm with z | z
    · rcases List.mem_append.mp z with y | y
      · exact nw_free (by decide) y
      · rw [da_tl] at y
        simp at y
    · exact nw_free (by decide) z
theorem nw_back {n : Int} (h : 0 ≤ n) : pn (nw n.toNat) = some n := by
  rw [nw_pn]
  congr 1
  omega
theorem pl_wl (h : BL l) : pl (wl l) = some l := by
  have hn : 58 ∉ l.1 := fun z => by
    have := h.ok.2.2.1 58 z
    omega
  have e : TL.tl (wl l) = l.1 ++ 58 :: TL.tl (nw l.2.toNat) := by
    unfold wl
    rw [TL.tl_append, TL.tl_append, co_tl, st_tl, List.append_assoc]
    rfl
  have hp : Txt.partition (wl l) ":" = (mkS l.1, (":" : Str), mkS (TL.tl (nw l.2.toNat))) := part_at co_tl e hn
  unfold pl
  rw [hp]
  show lOf (mkS l.1) (mkS (TL.tl (nw l.2.toNat))) = some l
  rw [mkS_of]
  unfold lOf
  have h0 := h.ok.2.2.2
  rw [nw_back (by omega)]
  have ho : okB (mkS l.1) l.2 = true := by
    unfold okB
    rw [mkS_tl]
    simp only [Bool.and_eq_true, decide_eq_true_eq, List.all_eq_true]
    exact ⟨⟨h.ok.1, h.ok.2.1⟩, fun c hc => by
      unfold lett
      simp only [Bool.and_eq_true, decide_eq_true_eq]
      exact h.ok.2.2.1 c hc, h0⟩
  show (if okB (mkS l.1) l.2 = true then some (TL.tl (mkS l.1), l.2) else none) = some l
  rw [if_pos ho]
  rfl
theorem pj_wj (h : BJ j) : pj (wj j) = some j := by
  have hn : 45 ∉ TL.tl (nw j.1.toNat) := nw_free (by decide)
  have h0 := h.ok.1
  obtain ⟨a, o⟩ := j
  cases o with
  | none =>
    have e : TL.tl (wj (a, none)) = TL.tl (nw a.toNat) ++ 45 :: [42] := by
      show TL.tl (nw a.toNat ++ "-*") = _
      rw [TL.tl_append, ds_tl]
    have hp : Txt.partition (wj (a, none)) "-" = (mkS (TL.tl (nw a.toNat)), ("-" : Str), mkS [42]) := part_at da_tl e hn
    unfold pj
    rw [hp]
    show jOf (mkS (TL.tl (nw a.toNat))) (mkS [42]) = _
    rw [mkS_of]
    unfold jOf
    rw [nw_back h0, pn_star (x := mkS [42]) rfl]
    exact if_pos (show TL.tl (mkS [42]) = [42] from rfl)
  | some m =>
    have hm := h.ok.2 m rfl
    have e : TL.tl (wj (a, some m)) = TL.tl (nw a.toNat) ++ 45 :: TL.tl (nw m.toNat) := by
      show TL.tl (nw a.toNat ++ "-" ++ nw m.toNat) = _
      rw [TL.tl_append, TL.tl_append, da_tl, List.append_assoc]
      rfl
    have hp : Txt.partition (wj (a, some m)) "-" = (mkS (TL.tl (nw a.toNat)), ("-" : Str), mkS (TL.tl (nw m.toNat))) := part_at da_tl e hn
    unfold pj
    rw [hp]
    show jOf (mkS (TL.tl (nw a.toNat))) (mkS (TL.tl (nw m.toNat))) = _
    rw [mkS_of, mkS_of]
    unfold jOf
    have h1 : (0 : Int) ≤ m := Int.le_trans h0 hm
    rw [nw_back h0, nw_back h1]
    show (if a ≤ m then some (a, some m) else none) = _
    rw [if_pos hm]
def inter : List Lay → List Jnt → List Str
  | l :: ls, j :: js => wl l :: wj j :: inter ls js
  | _, _ => []
def wordsC (ls : List Lay) : List Jnt → List Str
  | [] => []
  | j :: js => wj j :: inter ls js
def textC (ls : List Lay) (js : List Jnt) : Str := Txt.join " " (wordsC ls js)
structure BC (ls : List Lay) (js : List Jnt) : Prop where
  c : OkC ls js
  l : ∀ l ∈ ls, BL l
  j : ∀ j ∈ js, BJ j
theorem inter_len : ∀ (ls : List Lay) (js : List Jnt), ls.length = js.length → (inter ls js).length = 2 * ls.length
  | [], js, h => by
    cases js with
    | nil => rfl
    | cons j js => cases h
  | l :: ls, [], h => by cases h
  | l :: ls, j :: js, h => by
    have := inter_len ls js (by simpa using h)
    unfold inter
    rw [List.length_cons, List.length_cons, List.length_cons, this]
    omega
theorem inter_mem : ∀ (ls : List Lay) (js : List Jnt) (p : Str), p ∈ inter ls js → (∃ l ∈ ls, p = wl l) ∨ ∃ j ∈ js, p = wj j
  | [], js, p, h => by cases js <;> cases h
  | l :: ls, [], p, h => by cases h
  | l :: ls, j :: js, p, h => by
    unfold inter at h
    rcases List.mem_cons.mp h with rfl | h
    · exact .inl ⟨l, List.mem_cons_self, rfl⟩
    · rcases List.mem_cons.mp h with rfl | h
      · exact .inr ⟨j, List.mem_cons_self, rfl⟩
      · rcases inter_mem ls js p h with ⟨q, h1, h2⟩ | ⟨q, h1, h2⟩
        · exact .inl ⟨q, List.mem_cons_of_mem _ h1, h2⟩
        · exact .inr ⟨q, List.mem_cons_of_mem _ h1, h2⟩
theorem rd_inter : ∀ (ls : List Lay) (js : List Jnt) (k : Nat) (l0 : List Lay) (j0 : List Jnt), k % 2 = 1 → ls.length = js.length → l0.length + ls.length ≤ 20 → (∀ l ∈ ls, BL l) → (∀ j ∈ js, BJ j) → rdL k (inter ls js) l0 j0 = (0, l0 ++ ls, j0 ++ js)
  | [], js, k, l0, j0, hk, h, _, _, _ => by
    cases js with
    | nil =>
      rw [List.append_nil, List.append_nil]
      rfl
    | cons j js => cases h
  | l :: ls, [], k, l0, j0, hk, h, _, _, _ => by cases h
  | l :: ls, j :: js, k, l0, j0, hk, h, hl, h1, h2 => by
    rw [List.length_cons] at hl
    have s1 : stepRk k (wl l) l0 j0 = some (l0 ++ [l], j0) := by
      unfold stepRk
      rw [if_neg (by omega), pl_wl (h1 l List.mem_cons_self)]
      simp only
      rw [if_neg (by omega)]
    have s2 : stepRk (k + 1) (wj j) (l0 ++ [l]) j0 = some (l0 ++ [l], j0 ++ [j]) := by
      unfold stepRk
      rw [if_pos (by omega), pj_wj (h2 j List.mem_cons_self)]
    have ih := rd_inter ls js (k + 1 + 1) (l0 ++ [l]) (j0 ++ [j]) (by omega) (by simpa using h) (by rw [List.length_append, List.length_singleton]; omega) (fun q hq => h1 q (List.mem_cons_of_mem _ hq)) fun q hq => h2 q (List.mem_cons_of_mem _ hq)
    unfold inter
    rw [rdL, s1]
    simp only
    rw [rdL, s2]
    simp only
    rw [ih, List.append_assoc, List.append_assoc]
    rfl
theorem BC.split (h : BC ls js) : ∃ j0 jr, js = j0 :: jr ∧ jr.length = ls.length := by
  have hm := h.c.m
  cases js with
  | nil => simp at hm
  | cons j0 jr => exact ⟨j0, jr, rfl, by simpa using hm⟩
theorem rd_words (h : BC ls js) : rdL 0 (wordsC ls js) [] [] = (0, ls, js) ∧ (wordsC ls js).length = 1 + 2 * ls.length := by
  obtain ⟨j0, jr, rfl, hl⟩ := h.split
  have s0 : stepRk 0 (wj j0) [] [] = some ([], [j0]) := by
    unfold stepRk
    rw [if_pos rfl, pj_wj (h.j j0 List.mem_cons_self)]
    rfl
  have ih := rd_inter ls jr 1 [] [j0] rfl hl.symm (by have := h.c.n; simpa using this) h.l fun q hq => h.j q (List.mem_cons_of_mem _ hq)
  refine ⟨?_, ?_⟩
  · show rdL 0 (wj j0 :: inter ls jr) [] [] = _
    rw [rdL, s0]
    simp only
    rw [ih]
    rfl
  · show (wj j0 :: inter ls jr).length = _
    rw [List.length_cons, inter_len ls jr hl.symm]
    omega
/-- words that may be compared -/
def Fis' (P : List Str) : Prop := ∀ p ∈ P, Fi 123 p
theorem words_fi (h : BC ls js) : Fis' (wordsC ls js) ∧ (∀ p ∈ wordsC ls js, 32 ∉ TL.tl p) := by
  obtain ⟨j0, jr, rfl, hl⟩ := h.split
  have key : ∀ p ∈ wj j0 :: inter ls jr, (∃ l ∈ ls, p = wl l) ∨ ∃ j ∈ j0 :: jr, p = wj j := fun p hp => by
    rcases List.mem_cons.mp hp with rfl | hp
    · exact .inr ⟨j0, List.mem_cons_self, rfl⟩
    · rcases inter_mem ls jr p hp with z | ⟨q, h1, h2⟩
      · exact .inl z
      · exact .inr ⟨q, List.mem_cons_of_mem _ h1, h2⟩
  refine ⟨fun p hp => ?_, fun p hp => ?_⟩
  · rcases key p hp with ⟨q, h1, rfl⟩ | ⟨q, h1, rfl⟩
    · exact (wl_fi (h.l q h1)).mono (by decide)
    · exact wj_fi (h.j q h1)
  · rcases key p hp with ⟨q, h1, rfl⟩ | ⟨q, h1, rfl⟩
    · exact wl_free (h.l q h1)
    · exact wj_free q
theorem join_len' : ∀ (Q : List Str), Fis' Q → (∀ c ∈ TL.tl (Txt.join " " Q), c < 0x110000) ∧ (TL.tl (Txt.join " " Q)).length ≤ Q.length * 124 := by
  intro Q
  rw [TL.join_eq, TL.tl_join, sp_tl]
  induction Q with
  | nil => exact fun _ => ⟨fun c hc => (by cases hc), Nat.zero_le _⟩
  | cons a Q ih =>
    intro h
    have ha := h a List.mem_cons_self
    obtain ⟨i1, i2⟩ := ih fun p hp => h p (List.mem_cons_of_mem _ hp)
    cases Q with
    | nil =>
      refine ⟨fun c hc => sok_iff.mp ha.ok c hc, ?_⟩
      show (TL.tl a).length ≤ _
      have := ha.len
      simp only [List.length_cons, List.length_nil]
      omega
    | cons b Q =>
      have e : TL.joinL [32] ((a :: b :: Q).map TL.tl) = TL.tl a ++ ([32] ++ TL.joinL [32] ((b :: Q).map TL.tl)) := rfl
      rw [e]
      refine ⟨fun c hc => ?_, ?_⟩
      · rcases List.mem_append.mp hc with z | z
        · exact sok_iff.mp ha.ok c z
        · rcases List.mem_append.mp z with y | y
          · rw [List.mem_singleton.mp y]
            decide
          · exact i1 c y
      · rw [List.length_append, List.length_append, List.length_singleton]
        have := ha.len
        rw [List.length_cons, Nat.succ_mul]
        omega
theorem text_fi (h : BC ls js) : Fi 6000 (textC ls js) := by
  obtain ⟨h1, h2⟩ := join_len' _ (words_fi h).1
  refine ⟨sok_iff.mpr h1, Nat.le_trans h2 ?_⟩
  rw [(rd_words h).2]
  have := h.c.n
  omega
theorem kfmt_s (h : Fi 1000 x) : kFmt (.im (.str x)) sl ce = .ok (.im (.str x)) ce := by
  have hx : x.length ≤ 1000000 := by
    rw [TL.len_tl]
    exact Nat.le_trans h.len (by decide)
  unfold kFmt
  simp only [if_pos hx]
theorem kfmt_n {n : Nat} (hn : n < 10 ^ 61) : kFmt (.im (.int (n : Nat))) sl ce = .ok (.im (.str (nw n))) ce := by
  have h : ((n : Nat) : Int).natAbs.log2 < 1920 := by rw [Int.natAbs_natCast]; exact log_lt hn
  unfold kFmt
  simp only [if_pos h]
  rfl
theorem le6 (h : Fi N x) (hN : N ≤ 1000000) : x.length ≤ 1000000 := by
  rw [TL.len_tl]
  exact Nat.le_trans h.len hN
theorem em_app (x : Str) : Str.empty ++ x = x := TL.ext_tl (by rw [TL.tl_append]; rfl)
theorem m_wl (h : BL l) : f_written_layer [.im (layD l)] ce = .ok (.im (.str (wl l))) ce := by
  have f0 := st_fi h.ok
  have i1 : ∀ sl ce, kIx (.im (layD l)) (.im (.int 1)) sl ce = .ok (.im (.int (l.2.toNat : Nat))) ce := fun sl ce => by
    rw [lay1, ← h.int]
  have i0 := fun sl ce => lay0 (l := l) (sl := sl) (ce := ce)
  have k0 := fun sl ce => kfmt_s (sl := sl) (ce := ce) (f0.mono (by decide : 12 ≤ 1000))
  have k1 := fun sl ce => kfmt_n (sl := sl) (ce := ce) h.lt
  have f1 := fi_app f0 co_fi
  have f2 := fi_app f1 (nw_fi (k := 61) (by decide) h.lt)
  have L0 := le6 f0 (by decide)
  have L1 := le6 f1 (by decide)
  have L2 := le6 f2 (by decide)
  have L2 : (wl l).length ≤ 1000000 := L2
  have e0 := em_app (st l.1)
  have e2 : st l.1 ++ ":" ++ nw l.2.toNat = wl l := rfl
  unfold f_written_layer b_written_layer eFs
  simp? only [-kIx, kJn, i0, i1, k0, k1, e0, e2, L0, L1, L2, finD, List.take_length]
theorem m_wj (h : BJ j) : f_written_joint [.im (jntD j)] ce = .ok (.im (.str (wj j))) ce := by
  have fa := nw_fi (k := 61) (by decide) h.lt
  have k1 := fun sl ce => kfmt_n (sl := sl) (ce := ce) h.lt
  have e0 := em_app (nw j.1.toNat)
  have L0 := le6 fa (by decide)
  have hi := h.int
  unfold f_written_joint b_written_joint jntD
  cases hj : j.2 with
  | none =>
    have nn := fun sl ce => no_non (sl := sl) (ce := ce)
    have f1 := fi_app fa ds_fi
    have L1 := le6 f1 (by decide)
    have ew : wj j = nw j.1.toNat ++ "-*" := by
      unfold wj
      rw [hj]
    rw [ew, hi]
    simp? only [gT, gL, gN, sAsg, eFs, kJn, optD, nn, Int.toNat_natCast, k1, e0, L0, L1, finD, List.take_length]
  | some m =>
    have hm := h.int2 hj
    have kb := fun sl ce => kfmt_n (sl := sl) (ce := ce) (h.lm m hj)
    have nn : ∀ (i : Int) sl ce, kIsN false (.im (.int i)) (.im .non) sl ce = .ok (.im (.bl false)) ce := fun _ _ _ => rfl
    have f1 := fi_app fa da_fi
    have f2 := fi_app f1 (nw_fi (k := 61) (by decide) (h.lm m hj))
    have L1 := le6 f1 (by decide)
    have L2 := le6 f2 (by decide)
    have ew : wj j = nw j.1.toNat ++ "-" ++ nw m.toNat := by
      unfold wj
      rw [hj]
    rw [ew, hi, hm]
    simp? only [gT, gL, gN, sAsg, eFs, kJn, optD, nn, Int.toNat_natCast, k1, kb, e0, L0, L1, L2, finD, List.take_length]
end
end ZZ
set_option Elab.async false
set_option linter.all false
set_option maxRecDepth 100000
set_option maxHeartbeats 4000000
namespace ZZ
open PySem PySem.Spec L2
section
variable {sl : Sl} {ce : List Cell} {x y p : Str} {N : Nat} {l : Lay} {j : Jnt} {ls l2 : List Lay} {js j2 : List Jnt}
theorem wr_app (Q : List Str) (hq : Q.length ≤ 100) (z : Str) : kAppend (.cell ce.length) [.im (.str z)] sl (ce ++ [.lst (Q.map .str)]) = .ok (.im .non) (ce ++ [.lst ((Q ++ [z]).map .str)]) := by
  have hl : (Q.map D.str).length < LINE := by rw [List.length_map]; exact Nat.lt_of_le_of_lt hq (by decide)
  unfold kAppend
  simp only [ce_get0, List.getElem?_cons_zero, if_pos hl, ce_set0, List.set_cons_zero, List.map_append, List.map_cons, List.map_nil]
theorem wr_loop (a0 : Option Val) : ∀ (ls : List Lay) (js : List Jnt) (Q : List Str) (x2 x3 : Option Val), ls.length = js.length → (∀ l ∈ ls, BL l) → (∀ j ∈ js, BJ j) → Q.length + 2 * ls.length ≤ 100 → ∃ y2 y3,
    forD (gT [gN 2, gN 3]) lp_Core_written_0 (zipD (ls.map layD) (js.map jntD)) [a0, some (.cell ce.length), x2, x3] (ce ++ [.lst (Q.map .str)]) = .nx [a0, some (.cell ce.length), y2, y3] (ce ++ [.lst ((Q ++ inter ls js).map .str)])
  | [], js, Q, x2, x3, h, _, _, _ => by
    cases js with
    | nil => exact ⟨x2, x3, by rw [List.map_nil]; unfold inter; rw [List.append_nil]; rfl⟩
    | cons j js => cases h
  | l :: ls, [], Q, x2, x3, h, _, _, _ => by cases h
  | l :: ls, j :: js, Q, x2, x3, h, h1, h2, hq => by
    rw [List.length_cons] at hq
    have m1 := fun ce => m_wl (ce := ce) (h1 l List.mem_cons_self)
    have m2 := fun ce => m_wj (ce := ce) (h2 j List.mem_cons_self)
    have p1 := fun sl => wr_app (sl := sl) (ce := ce) Q (by omega) (wl l)
    have p2 := fun sl => wr_app (sl := sl) (ce := ce) (Q ++ [wl l]) (by rw [List.length_append, List.length_singleton]; omega) (wj j)
    obtain ⟨y2, y3, ih⟩ := wr_loop a0 ls js (Q ++ [wl l] ++ [wj j]) (some (.im (layD l))) (some (.im (jntD j))) (by simpa using h) (fun q hq => h1 q (List.mem_cons_of_mem _ hq)) (fun q hq => h2 q (List.mem_cons_of_mem _ hq)) (by simp only [List.length_append, List.length_singleton]; omega)
    refine ⟨y2, y3, ?_⟩
    have ez : zipD ((l :: ls).map layD) ((j :: js).map jntD) = .tup [layD l, jntD j] :: zipD (ls.map layD) (js.map jntD) := rfl
    rw [ez, forD]
    simp only [gT, gL, gN, List.set_cons_zero, List.set_cons_succ, Option.bind_some]
    have e : lp_Core_written_0 [a0, some (.cell ce.length), some (.im (layD l)), some (.im (jntD j))] (ce ++ [.lst (Q.map .str)]) = .nx [a0, some (.cell ce.length), some (.im (layD l)), some (.im (jntD j))] (ce ++ [.lst ((Q ++ [wl l] ++ [wj j]).map .str)]) := by
      unfold lp_Core_written_0
      simp? only [m1, p1, m2, p2]
    rw [e]
    have e2 : Q ++ [wl l] ++ [wj j] ++ inter ls js = Q ++ inter (l :: ls) (j :: js) := by
      show _ = Q ++ (wl l :: wj j :: inter ls js)
      rw [List.append_assoc, List.append_assoc]
      rfl
    rw [e2] at ih
    exact ih
theorem sum_ls (h : Fis' Q) : (Q.map (·.length)).sum ≤ Q.length * 123 := by
  induction Q with
  | nil => exact Nat.zero_le _
  | cons a Q ih =>
    have := (h a List.mem_cons_self).len
    have e := TL.len_tl a
    have := ih fun p hp => h p (List.mem_cons_of_mem _ hp)
    rw [List.map_cons, List.sum_cons, List.length_cons, Nat.succ_mul]
    omega
theorem t_join (h : BC ls js) : kJoin (.im (.str " ")) [.im (.lst ((wordsC ls js).map .str))] sl ce = .ok (.im (.str (textC ls js))) ce := by
  refine k_join rfl ?_
  have h1 := sum_ls (words_fi h).1
  have h2 : (" " : Str).length = 1 := by rw [TL.len_tl, sp_tl]; rfl
  have h3 := (rd_words h).2
  have := h.c.n
  rw [h2]
  rw [h3] at h1 ⊢
  omega
theorem m_cwritten (h : BC ls js) : f_Core_written [.im (coreD ls js)] ce = .ok (.im (.str (textC ls js))) ce := by
  have tj := fun sl ce => t_join (sl := sl) (ce := ce) h
  obtain ⟨j0, jr, rfl, hl⟩ := h.split
  have hn := h.c.n
  have m0 := fun ce => m_wj (ce := ce) (h.j j0 List.mem_cons_self)
  have i0 : ∀ sl ce, kIx (.im (jntsD (j0 :: jr))) (.im (.int 0)) sl ce = .ok (.im (jntD j0)) ce := fun sl ce => jix (k := 0) rfl
  have k0 : ∀ sl ce, kLstC [.im (.str (wj j0))] sl ce = .ok (.cell ce.length) (ce ++ [.lst ([wj j0].map .str)]) := fun _ _ => rfl
  have sb : ∀ sl ce, kSlL (.im (jntsD (j0 :: jr))) (some 1) none sl ce = .ok (.im (.lst (jr.map jntD))) ce := fun sl ce => by
    unfold kSlL jntsD
    have ec : cutD ((j0 :: jr).map jntD) (some ((1 : Nat) : Int)) none = jr.map jntD := by
      unfold cutD
      rw [HT.sIx_none, HT.sIx_nat, List.map_cons, List.length_cons, Nat.min_eq_left (by omega), List.drop_succ_cons, List.drop_zero]
      exact List.take_of_length_le (by omega)
    have ec : cutD ((j0 :: jr).map jntD) (some 1) none = jr.map jntD := ec
    simp only [asL, ec]
  have kz : kZip [.im (laysD ls), .im (.lst (jr.map jntD))] = some (zipD (ls.map layD) (jr.map jntD)) := by
    unfold kZip laysD
    rfl
  obtain ⟨y2, y3, lp⟩ := wr_loop (ce := ce) (some (.im (coreD ls (j0 :: jr)))) ls jr [wj j0] none none hl.symm h.l (fun q hq => h.j q (List.mem_cons_of_mem _ hq)) (by rw [List.length_singleton]; omega)
  have ew : [wj j0] ++ inter ls jr = wordsC ls (j0 :: jr) := rfl
  rw [ew] at lp
  have e1 : [wj j0].map D.str = [.str (wj j0)] := rfl
  rw [e1] at lp k0
  have fz : ∀ (f : DSt), frz 1 f [some (.im (coreD ls (j0 :: jr))), some (.cell ce.length), y2, y3] (ce ++ [.lst ((wordsC ls (j0 :: jr)).map .str)]) = f [some (.im (coreD ls (j0 :: jr))), some (.im (.lst ((wordsC ls (j0 :: jr)).map .str))), y2, y3] (ce ++ [.dead]) := fun f => by
    unfold frz
    simp only [List.getElem?_cons_succ, List.getElem?_cons_zero, List.set_cons_succ, List.set_cons_zero, ce_get0, ce_set0]
  unfold f_Core_written b_Core_written
  simp? only [-frz, -kLstC, cfld0, cfld1, i0, m0, k0, eSlice, eOpt, sb, kz, lp, fz, tj, finD, List.take_left']
end
end ZZ
set_option Elab.async false
set_option linter.all false
set_option maxRecDepth 100000
set_option maxHeartbeats 4000000
namespace ZZ
open PySem PySem.Spec L2
section
variable {sl : Sl} {ce : List Cell} {x y p : Str} {N : Nat} {l : Lay} {j : Jnt} {ls l2 : List Lay} {js j2 : List Jnt} {ce0 : List Cell}
def SJ' (j : Jnt) : Prop := okJ j ∧ j.1 < 100000000000000000000000000000000000 ∧ ∀ m, j.2 = some m → m < 100000000000000000000000000000000000
theorem p61 : (10 : Nat) ^ 61 = 10000000000000000000000000000000000000000000000000000000000000 := by decide
theorem word_loop2 : ∀ (items : List D) (cs : List Nat) (ds : List Int) (x2 : Option Val), (∀ c ∈ cs, 97 ≤ c ∧ c ≤ 122) → cs.length + items.length ≤ 900 → ∃ (cs' : List Nat) (ds' : List Int) (y2 : Option Val), cs'.length = cs.length + items.length ∧ (∀ c ∈ cs', 97 ≤ c ∧ c ≤ 122) ∧ forD (gN 2) lp__law_word_0 items [some (.cell 0), some (.im (.str (st cs))), x2] (.lst (ds.map .int) :: ce0) = .nx [some (.cell 0), some (.im (.str (st cs'))), y2] (.lst (ds'.map .int) :: ce0)
  | [], cs, ds, x2, h, _ => ⟨cs, ds, x2, rfl, h, by rw [forD]⟩
  | d :: items, cs, ds, x2, h, hl => by
    rw [List.length_cons] at hl
    obtain ⟨r, d1, h0, h1, e1⟩ := m_drawc ds 26 ce0 (by decide)
    obtain ⟨c, hc, ec⟩ := ix_let r h0 h1
    have ka : ∀ sl ce, kAdd (.im (.str (st cs))) (.im (.str ⟨#[c]⟩)) sl ce = .ok (.im (.str (st (cs ++ [c])))) ce := fun sl ce => by
      rw [k_app (by rw [st_tl, one_tl, List.length_singleton]; omega)]
      have : st cs ++ (⟨#[c]⟩ : Str) = st (cs ++ [c]) := TL.ext_tl (by rw [TL.tl_append, st_tl, st_tl, one_tl])
      rw [this]
    obtain ⟨cs', ds', y2, l', f, e⟩ := word_loop2 items (cs ++ [c]) d1 (some (.im d)) (fun q hq => (List.mem_append.mp hq).elim (h q) fun z => by rw [List.mem_singleton.mp z]; exact hc) (by rw [List.length_append, List.length_singleton]; omega)
    refine ⟨cs', ds', y2, by rw [l', List.length_append, List.length_singleton, List.length_cons]; omega, f, ?_⟩
    rw [forD]
    simp only [gN, List.set_cons_zero, List.set_cons_succ]
    have e2 : lp__law_word_0 [some (.cell 0), some (.im (.str (st cs))), some (.im d)] (.lst (ds.map .int) :: ce0) = .nx [some (.cell 0), some (.im (.str (st (cs ++ [c])))), some (.im d)] (.lst (d1.map .int) :: ce0) := by
      unfold lp__law_word_0
      simp? only [-kAdd, -kIx, e1, ec, ka]
    rw [e2]
    exact e
theorem m_lwordk (ds : List Int) (ce0 : List Cell) : ∃ (cs : List Nat) (ds' : List Int), (1 ≤ cs.length ∧ cs.length ≤ 12 ∧ ∀ c ∈ cs, 97 ≤ c ∧ c ≤ 122) ∧ f__law_word [.cell 0] (.lst (ds.map .int) :: ce0) = .ok (.im (.str (st cs))) (.lst (ds'.map .int) :: ce0) := by
  obtain ⟨r, d1, h0, h1, e1⟩ := m_drawc ds 12 ce0 (by decide)
  obtain ⟨n, rfl⟩ : ∃ n : Nat, r = (n : Int) := ⟨r.toNat, by omega⟩
  have ka : ∀ sl ce, kAdd (.im (.int 1)) (.im (.int (n : Nat))) sl ce = .ok (.im (.int ((1 + n : Nat) : Int))) ce := fun sl ce => by
    show EOut.ok (Val.im (.int (1 + (n : Int)))) ce = _
    rw [show (1 + (n : Int)) = ((1 + n : Nat) : Int) by omega]
  have rg := rng1 (1 + n) (by omega)
  obtain ⟨cs, ds', y2, l', f, e⟩ := word_loop2 (ce0 := ce0) ((List.range (1 + n)).map fun (i : Nat) => D.int (i : Int)) [] d1 none (fun c hc => by cases hc) (by rw [List.length_map, List.length_range, List.length_nil]; omega)
  rw [List.length_map, List.length_range, List.length_nil] at l'
  have e0 : ("" : Str) = st [] := by decide +kernel
  rw [← e0] at e
  have tk := fun c => tk1 (ce0 := ce0) c
  refine ⟨cs, ds', ⟨by omega, by omega, f⟩, ?_⟩
  unfold f__law_word b__law_word
  simp? only [-kAdd, e1, ka, rg, e, finD, tk]
theorem m_lbnds (ds : List Int) (ce0 : List Cell) : ∃ (j : Jnt) (ds' : List Int), SJ' j ∧ f__law_bounds [.cell 0] (.lst (ds.map .int) :: ce0) = .ok (.im (jntD j)) (.lst (ds'.map .int) :: ce0) := by
  obtain ⟨a, d1, ha, e1⟩ := m_numc ds ce0
  obtain ⟨b, d2, hb, e2⟩ := m_numc d1 ce0
  obtain ⟨r, d3, h0, h1, e3⟩ := m_drawc d2 3 ce0 (by decide)
  have p30 : (10 : Nat) ^ 30 = 1000000000000000000000000000000 := by decide
  have ka : ∀ sl ce, kAdd (.im (.int (a : Nat))) (.im (.int (b : Nat))) sl ce = .ok (.im (.int ((a : Int) + (b : Int)))) ce := fun _ _ => rfl
  have qq := fun i j sl ce => eqi2 (sl := sl) (ce := ce) i j
  have tk := fun c => tk1 (ce0 := ce0) c
  by_cases h : r = 0
  · have d := decide_eq_true h
    refine ⟨((a : Int), none), d3, ⟨⟨by show (0 : Int) ≤ a; omega, fun m z => by cases z⟩, by show (a : Int) < _; omega, fun m z => by cases z⟩, ?_⟩
    unfold f__law_bounds b__law_bounds
    simp? only [-kAdd, -kEq, e1, e2, e3, ka, qq, d, jntD, optD, finD, tk]
  · have d := decide_eq_false h
    refine ⟨((a : Int), some ((a : Int) + (b : Int))), d3, ⟨⟨by show (0 : Int) ≤ a; omega, fun m z => ?_⟩, by show (a : Int) < _; omega, fun m z => ?_⟩, ?_⟩
    · cases z
      show (a : Int) ≤ (a : Int) + (b : Int)
      omega
    · cases z
      omega
    · unfold f__law_bounds b__law_bounds
      simp? only [-kAdd, -kEq, e1, e2, e3, ka, qq, d, jntD, optD, finD, tk]
theorem ixN_at {n k : Nat} (h : k < n) : ixN n (k : Int) = some k := by
  unfold ixN
  rw [if_pos (by omega), if_pos (by omega), Int.toNat_natCast]
end
end ZZ
set_option Elab.async false
set_option linter.all false
set_option maxRecDepth 100000
set_option maxHeartbeats 4000000
namespace ZZ
open PySem PySem.Spec L2
def cutG {α : Type} (xs : List α) (lo hi : Option Int) : List α := (xs.drop (HT.sIx xs.length 0 lo)).take (HT.sIx xs.length xs.length hi - HT.sIx xs.length 0 lo)
theorem cutD_map {α : Type} (F : α → D) (xs : List α) (lo hi : Option Int) : cutD (xs.map F) lo hi = (cutG xs lo hi).map F := by
  unfold cutD cutG
  rw [List.length_map, List.map_take, List.map_drop]
theorem cutG_sub {α : Type} (xs : List α) (lo hi : Option Int) : ∀ x ∈ cutG xs lo hi, x ∈ xs := fun x h => List.mem_of_mem_drop (List.mem_of_mem_take h)
theorem cut_init {α : Type} (xs : List α) : cutG xs none (some (-1)) = xs.take (xs.length - 1) := by
  have : HT.sIx xs.length xs.length (some (-1)) = xs.length - 1 := by
    show (if (-1 : Int) < 0 then ((-1 : Int) + (xs.length : Int)).toNat else min ((-1 : Int)).toNat xs.length) = _
    rw [if_pos (by decide)]
    omega
  unfold cutG
  rw [this, HT.sIx_none]
  simp
theorem cut_tail {α : Type} (xs : List α) (k : Nat) (h : k ≤ xs.length) : cutG xs (some (k : Int)) none = xs.drop k := by
  unfold cutG
  rw [HT.sIx_nat, HT.sIx_none, Nat.min_eq_left h, List.take_of_length_le (by simp)]
theorem cut_nat {α : Type} (xs : List α) (a b : Nat) (h : b ≤ xs.length) (h2 : a ≤ xs.length) : cutG xs (some (a : Int)) (some (b : Int)) = (xs.drop a).take (b - a) := by
  unfold cutG
  rw [HT.sIx_nat, HT.sIx_nat, Nat.min_eq_left h, Nat.min_eq_left h2]
/-- a stretch turned over -/
def tl {α : Type} (a b : Nat) (xs : List α) : List α := xs.take a ++ ((xs.drop a).take (b - a)).reverse ++ xs.drop b
theorem tl_len {α : Type} {a b : Nat} {xs : List α} (h1 : a ≤ b) (h2 : b ≤ xs.length) : (tl a b xs).length = xs.length := by
  unfold tl
  simp only [List.length_append, List.length_reverse, List.length_take, List.length_drop]
  omega
theorem tl_mem {α : Type} {a b : Nat} {xs : List α} : ∀ x ∈ tl a b xs, x ∈ xs := fun x h => by
  unfold tl at h
  rcases List.mem_append.mp h with h | h
  · rcases List.mem_append.mp h with h | h
    · exact List.mem_of_mem_take h
    · exact List.mem_of_mem_drop (List.mem_of_mem_take (List.mem_reverse.mp h))
  · exact List.mem_of_mem_drop h
theorem tl_self {α : Type} (a : Nat) (xs : List α) : tl a a xs = xs := by
  unfold tl
  simp
def tj {α : Type} (a b : Nat) (xs : List α) : List α := if a < b then tl (a + 1) b xs else xs
def jnJ (x y : Jnt) : Jnt := (x.1 + y.1, match x.2, y.2 with
  | some a, some b => some (a + b)
  | _, _ => none)
theorem jnJ_ok {x y : Jnt} (h1 : okJ x) (h2 : okJ y) : okJ (jnJ x y) := by
  obtain ⟨a, m⟩ := x
  obtain ⟨b, n⟩ := y
  obtain ⟨p1, p2⟩ := h1
  obtain ⟨q1, q2⟩ := h2
  simp only at p1 p2 q1 q2
  refine ⟨by show 0 ≤ a + b; omega, fun m' hm => ?_⟩
  cases m with
  | none => cases hm
  | some m =>
    cases n with
    | none => cases hm
    | some n =>
      have := p2 m rfl
      have := q2 n rfl
      cases hm
      show a + b ≤ m + n
      omega
section
variable {sl : Sl} {ce : List Cell} {ls ls2 : List Lay} {js js2 : List Jnt}
theorem fL : D.lst (ls.map layD) = laysD ls := rfl
theorem fJ : D.lst (js.map jntD) = jntsD js := rfl
theorem slLy (lo hi : Option Int) : kSlL (.im (laysD ls)) lo hi sl ce = .ok (.im (laysD (cutG ls lo hi))) ce := by
  unfold kSlL laysD
  simp only [asL, cutD_map]
theorem slJy (lo hi : Option Int) : kSlL (.im (jntsD js)) lo hi sl ce = .ok (.im (jntsD (cutG js lo hi))) ce := by
  unfold kSlL jntsD
  simp only [asL, cutD_map]
theorem rvL : kRevV (.im (laysD ls)) sl ce = .ok (.im (laysD ls.reverse)) ce := by
  unfold kRevV laysD
  simp only [asL, List.map_reverse]
theorem rvJ : kRevV (.im (jntsD js)) sl ce = .ok (.im (jntsD js.reverse)) ce := by
  unfold kRevV jntsD
  simp only [asL, List.map_reverse]
theorem adL (h : ls.length + ls2.length ≤ 1000) : kAdd (.im (laysD ls)) (.im (laysD ls2)) sl ce = .ok (.im (laysD (ls ++ ls2))) ce := by
  have hL : LINE = 16777216 := rfl
  unfold kAdd laysD
  simp only [asL, List.length_map]
  rw [if_pos (by omega), List.map_append]
theorem adJ (h : js.length + js2.length ≤ 1000) : kAdd (.im (jntsD js)) (.im (jntsD js2)) sl ce = .ok (.im (jntsD (js ++ js2))) ce := by
  have hL : LINE = 16777216 := rfl
  unfold kAdd jntsD
  simp only [asL, List.length_map]
  rw [if_pos (by omega), List.map_append]
theorem one_j (j : Jnt) : D.lst [jntD j] = jntsD [j] := rfl
theorem ixm1 {j : Jnt} (h : js[js.length - 1]? = some j) : kIx (.im (jntsD js)) (.im (.int (-1))) sl ce = .ok (.im (jntD j)) ce := by
  have hl := (List.getElem?_eq_some_iff.mp h).1
  have e : atI (js.map jntD) (-1) = some (jntD j) := by
    unfold atI ixN
    rw [List.length_map, if_neg (by decide), if_pos (by omega)]
    show (js.map jntD)[((-1 : Int) + (js.length : Int)).toNat]? = _
    rw [show ((-1 : Int) + (js.length : Int)).toNat = js.length - 1 by omega, List.getElem?_map, h]
    rfl
  unfold kIx jntsD
  simp only [asSq, e]
theorem m_joinedA (x y : Jnt) : f_joined_joint [.im (jntD x), .im (jntD y)] ce = .ok (.im (jntD (jnJ x y))) ce := by
  obtain ⟨a, m⟩ := x
  obtain ⟨b, n⟩ := y
  have n0 : ∀ sl ce, kIsN false (.im .non) (.im .non) sl ce = .ok (.im (.bl true)) ce := fun _ _ => rfl
  have n1 : ∀ i sl ce, kIsN false (.im (.int i)) (.im .non) sl ce = .ok (.im (.bl false)) ce := fun _ _ _ => rfl
  have ai : ∀ (i j : Int) sl ce, kAdd (.im (.int i)) (.im (.int j)) sl ce = .ok (.im (.int (i + j))) ce := fun i j sl ce => rfl
  unfold f_joined_joint b_joined_joint
  cases m with
  | none =>
    have r : jntD (jnJ (a, none) (b, n)) = D.tup [.int (a + b), .non] := rfl
    simp? only [-kAdd, ai, jnt0, jnt1, optD, n0, r, finD, List.take_length]
  | some m =>
    cases n with
    | none =>
      have r : jntD (jnJ (a, some m) (b, none)) = D.tup [.int (a + b), .non] := rfl
      simp? only [-kAdd, ai, jnt0, jnt1, optD, n0, n1, r, finD, List.take_length]
    | some n =>
      have r : jntD (jnJ (a, some m) (b, some n)) = D.tup [.int (a + b), .int (m + n)] := rfl
      simp? only [-kAdd, ai, jnt0, jnt1, optD, n1, r, finD, List.take_length]
def sumJ (js js2 : List Jnt) (x y : Jnt) : List Jnt := cutG js none (some (-1)) ++ [jnJ x y] ++ cutG js2 (some 1) none
structure Two (ls ls2 : List Lay) (js js2 : List Jnt) (x y : Jnt) : Prop where
  a : OkC ls js
  b : OkC ls2 js2
  x : js[js.length - 1]? = some x
  y : js2[0]? = some y
theorem Two.ok {x y : Jnt} (h : Two ls ls2 js js2 x y) (hn : ls.length + ls2.length ≤ 20) : OkC (ls ++ ls2) (sumJ js js2 x y) := by
  have e1 : ((1 : Nat) : Int) = 1 := rfl
  have l1 := h.a.m
  have l2 := h.b.m
  have c2 := cut_tail js2 1 (by omega)
  rw [e1] at c2
  refine ⟨fun l hl => ?_, fun j hj => ?_, by rw [List.length_append]; exact hn, ?_⟩
  · rcases List.mem_append.mp hl with hl | hl
    · exact h.a.l l hl
    · exact h.b.l l hl
  · unfold sumJ at hj
    rcases List.mem_append.mp hj with hj | hj
    · rcases List.mem_append.mp hj with hj | hj
      · exact h.a.j j (cutG_sub _ _ _ j hj)
      · rw [List.mem_singleton] at hj
        rw [hj]
        exact jnJ_ok (h.a.j _ (List.mem_of_getElem? h.x)) (h.b.j _ (List.mem_of_getElem? h.y))
    · exact h.b.j j (cutG_sub _ _ _ j hj)
  · unfold sumJ
    rw [cut_init, c2]
    simp only [List.length_append, List.length_take, List.length_drop, List.length_singleton]
    omega
theorem Two.len {x y : Jnt} (h : Two ls ls2 js js2 x y) : (cutG js none (some (-1))).length ≤ 20 ∧ (cutG js2 (some 1) none).length ≤ 20 := by
  have e1 : ((1 : Nat) : Int) = 1 := rfl
  have l1 := h.a.m
  have l2 := h.b.m
  have n1 := h.a.n
  have n2 := h.b.n
  have c2 := cut_tail js2 1 (by omega)
  rw [e1] at c2
  rw [cut_init, c2]
  simp only [List.length_take, List.length_drop]
  omega
theorem m_cadd {x y : Jnt} (h : Two ls ls2 js js2 x y) (hn : ls.length + ls2.length ≤ 20) : f_Core___add__ [.im (coreD ls js), .im (coreD ls2 js2)] ce = .ok (.im (coreD (ls ++ ls2) (sumJ js js2 x y))) ce := by
  have n1 := h.a.n
  have n2 := h.b.n
  have lc := h.len
  have t1 : ¬ (20 : Int) < (ls.length : Int) + (ls2.length : Int) := by omega
  have ai : ∀ (i j : Int) sl ce, kAdd (.im (.int i)) (.im (.int j)) sl ce = .ok (.im (.int (i + j))) ce := fun i j sl ce => rfl
  have ng : ∀ (i : Int) sl ce, kNeg (.im (.int i)) sl ce = .ok (.im (.int (-i))) ce := fun _ _ _ => rfl
  have i1 := fun sl ce => ixm1 (sl := sl) (ce := ce) h.x
  have z0 : ((0 : Nat) : Int) = 0 := rfl
  have i2 := fun sl ce => jix (sl := sl) (ce := ce) h.y
  simp only [z0] at i2
  have jj := fun ce => m_joinedA (ce := ce) x y
  have a1 := fun sl ce => adL (sl := sl) (ce := ce) (ls := ls) (ls2 := ls2) (by omega)
  have a2 := fun sl ce => adJ (sl := sl) (ce := ce) (js := cutG js none (some (-1))) (js2 := [jnJ x y]) (by rw [List.length_singleton]; omega)
  have a3 := fun sl ce => adJ (sl := sl) (ce := ce) (js := cutG js none (some (-1)) ++ [jnJ x y]) (js2 := cutG js2 (some 1) none) (by rw [List.length_append, List.length_singleton]; omega)
  have mk := fun sl ce => m_cmake (sl := sl) (ce := ce) (h.ok hn)
  unfold sumJ at mk ⊢
  unfold f_Core___add__ b_Core___add__
  simp? only [-kAdd, -kLen, ai, cfld0, cfld1, llen, t1, ng, i1, i2, jj, a1, eSlice, eOpt, slJy, one_j, a2, a3, mk, finD, List.take_length]
theorem own_cc (fh : DF) : kOwn c_Core fh (.im (coreD ls js)) (.im (coreD ls2 js2)) sl ce = fh [.im (coreD ls js), .im (coreD ls2 js2)] ce := by
  unfold kOwn
  rw [isC_c, isC_c]
  rfl
theorem OkC.rev (h : OkC ls js) : OkC ls.reverse js.reverse := ⟨fun l hl => h.l l (List.mem_reverse.mp hl), fun j hj => h.j j (List.mem_reverse.mp hj), by rw [List.length_reverse]; exact h.n, by rw [List.length_reverse, List.length_reverse]; exact h.m⟩
theorem m_cinv (h : OkC ls js) : kOwn1 c_Core f_Core___invert__ (.im (coreD ls js)) sl ce = .ok (.im (coreD ls.reverse js.reverse)) ce := by
  have mk := fun sl ce => m_cmake (sl := sl) (ce := ce) h.rev
  unfold kOwn1
  rw [isC_c, if_pos rfl]
  unfold f_Core___invert__ b_Core___invert__
  simp? only [cfld0, cfld1, rvL, rvJ, mk, finD, List.take_length]
theorem m_ceq (h : OkC ls js) : kOwn c_Core f_Core___eq__ (.im (coreD ls js)) (.im (coreD ls js)) sl ce = .ok (.im (.bl true)) ce := by
  have ic : ∀ sl ce, kIsi i_Core (.im (coreD ls js)) sl ce = .ok (.im (.bl true)) ce := fun _ _ => rfl
  have r1 := fun sl ce => lays_refl (sl := sl) (ce := ce) h.l false
  have r2 := fun sl ce => jnts_refl (sl := sl) (ce := ce) (js := js) false
  rw [own_cc]
  unfold f_Core___eq__ b_Core___eq__
  simp? only [ic, cfld0, cfld1, r1, r2, finD, List.take_length]
theorem OkC.tl (h : OkC ls js) {a b : Nat} (h1 : a ≤ b) (h2 : b ≤ ls.length) : OkC (ZZ.tl a b ls) (tj a b js) := by
  have hm := h.m
  refine ⟨fun l hl => h.l l (tl_mem l hl), fun j hj => ?_, by rw [tl_len h1 h2]; exact h.n, ?_⟩
  · unfold tj at hj
    split at hj
    · exact h.j j (tl_mem j hj)
    · exact h.j j hj
  · rw [tl_len h1 h2]
    unfold tj
    split
    · rw [tl_len (by omega) (by omega)]
      exact hm
    · exact hm
theorem setSl_ok {fo fl fh fv : DE} {n a c : Nat} {ds es : List D} (hv : fv sl ce = .ok (.im (.lst es)) ce) (ho : fo sl ce = .ok (.cell n) ce) (hl : fl sl ce = .ok (.im (.int (a : Nat))) ce) (hh : fh sl ce = .ok (.im (.int (c : Nat))) ce) (hc : ce[n]? = some (.lst ds))
    (h1 : a ≤ c) (h2 : c ≤ ds.length) (h3 : ds.length + es.length ≤ 16777216) : sSetSl fo fl fh fv sl ce = .nx sl (ce.set n (.lst (ds.take a ++ es ++ ds.drop c))) := by
  have hL : LINE = 16777216 := rfl
  unfold sSetSl
  simp only [sExp, hv, ho, hl, hh, kIntS1, hc]
  rw [if_pos ⟨by omega, by omega, by omega, by omega⟩, Int.toNat_natCast, Int.toNat_natCast]
theorem m_turned (h : OkC ls js) {a b : Nat} (h1 : a ≤ b) (h2 : b ≤ ls.length) : f_Core_turned [.im (coreD ls js), .im (.int a), .im (.int b)] ce = .ok (.im (coreD (ZZ.tl a b ls) (tj a b js))) ce := by
  have hn := h.n
  have hm := h.m
  have t1 : (0 : Int) ≤ (a : Int) := by omega
  have t2 : (a : Int) ≤ (ls.length : Int) := by omega
  have t3 : (a : Int) ≤ (b : Int) := by omega
  have t4 : (b : Int) ≤ (ls.length : Int) := by omega
  have k0 : ∀ sl ce, kListC [.im (laysD ls)] sl ce = .ok (.cell ce.length) (ce ++ [.lst (ls.map layD)]) := fun _ _ => rfl
  have k1 : ∀ sl ce, kListC [.im (jntsD js)] sl ce = .ok (.cell ce.length) (ce ++ [.lst (js.map jntD)]) := fun _ _ => rfl
  have mk := fun sl ce => m_cmake (sl := sl) (ce := ce) (h.tl h1 h2)
  by_cases hab : a < b
  · have ltI : (a : Int) < (b : Int) := by omega
    have c3 : ∀ sl, kSlL (.cell ce.length) (some (a : Int)) (some (b : Int)) sl (ce ++ [.lst (ls.map layD), .lst (js.map jntD)]) = .ok (.im (laysD (cutG ls (some a) (some b)))) (ce ++ [.lst (ls.map layD), .lst (js.map jntD)]) := fun sl => by
      unfold kSlL
      simp only [asL, ce_get0, List.getElem?_cons_zero, cutD_map]
      rfl
    have c4 : ∀ sl, kSlL (.cell (ce.length + 1)) (some ((a : Int) + 1)) (some (b : Int)) sl (ce ++ [.lst ((ZZ.tl a b ls).map layD), .lst (js.map jntD)]) = .ok (.im (jntsD (cutG js (some ((a : Int) + 1)) (some b)))) (ce ++ [.lst ((ZZ.tl a b ls).map layD), .lst (js.map jntD)]) := fun sl => by
      unfold kSlL
      simp only [asL, ce_get, List.getElem?_cons_zero, List.getElem?_cons_succ, cutD_map]
      rfl
    have ai : ∀ (i j : Int) sl ce, kAdd (.im (.int i)) (.im (.int j)) sl ce = .ok (.im (.int (i + j))) ce := fun i j sl ce => rfl
    have a1 : (a : Int) + 1 = ((a + 1 : Nat) : Int) := rfl
    have s3 := setSl_ok (fo := eV 3) (fl := eV 1) (fh := eV 2) (fv := eUn kRevV (eSlice (eV 3) (some (eV 1)) (some (eV 2)))) (sl := [some (.im (coreD ls js)), some (.im (.int a)), some (.im (.int b)), some (.cell ce.length), some (.cell (ce.length + 1))]) (ce := ce ++ [.lst (ls.map layD), .lst (js.map jntD)]) (n := ce.length) (a := a) (c := b) (ds := ls.map layD) (es := (cutG ls (some (a : Int)) (some (b : Int))).reverse.map layD)
      (by simp? only [eSlice, eOpt, c3, rvL]; rfl) (by simp? only []) (by simp? only []) (by simp? only []) (by simp) h1 (by rw [List.length_map]; exact h2) (by rw [List.length_map, List.length_map, List.length_reverse, cut_nat _ _ _ h2 (by omega), List.length_take, List.length_drop]; omega)
    have e3 : (ls.map layD).take a ++ (cutG ls (some (a : Int)) (some (b : Int))).reverse.map layD ++ (ls.map layD).drop b = (ZZ.tl a b ls).map layD := by
      rw [cut_nat _ _ _ h2 (by omega)]
      unfold ZZ.tl
      rw [List.map_append, List.map_append, List.map_take, List.map_drop]
    have e3' : (ce ++ [Cell.lst (ls.map layD), .lst (js.map jntD)]).set ce.length (.lst ((ZZ.tl a b ls).map layD)) = ce ++ [.lst ((ZZ.tl a b ls).map layD), .lst (js.map jntD)] := by simp
    rw [e3, e3'] at s3
    have s4 := setSl_ok (fo := eV 4) (fl := eBin kAdd (eV 1) (eC (.int 1))) (fh := eV 2) (fv := eUn kRevV (eSlice (eV 4) (some (eBin kAdd (eV 1) (eC (.int 1)))) (some (eV 2)))) (sl := [some (.im (coreD ls js)), some (.im (.int a)), some (.im (.int b)), some (.cell ce.length), some (.cell (ce.length + 1))]) (ce := ce ++ [.lst ((ZZ.tl a b ls).map layD), .lst (js.map jntD)]) (n := ce.length + 1) (a := a + 1) (c := b) (ds := js.map jntD) (es := (cutG js (some ((a : Int) + 1)) (some (b : Int))).reverse.map jntD)
      (by simp? only [-kAdd, ai, eSlice, eOpt, c4, rvJ]; rfl) (by simp? only []) (by simp? only [-kAdd, ai]; rfl) (by simp? only []) (by simp) hab (by rw [List.length_map]; omega) (by rw [a1, List.length_map, List.length_map, List.length_reverse, cut_nat _ _ _ (by omega) (by omega), List.length_take, List.length_drop]; omega)
    have e4 : (js.map jntD).take (a + 1) ++ (cutG js (some ((a : Int) + 1)) (some (b : Int))).reverse.map jntD ++ (js.map jntD).drop b = (tj a b js).map jntD := by
      rw [a1, cut_nat _ _ _ (by omega) (by omega)]
      unfold tj ZZ.tl
      rw [if_pos hab, List.map_append, List.map_append, List.map_take, List.map_drop]
    have e4' : (ce ++ [Cell.lst ((ZZ.tl a b ls).map layD), .lst (js.map jntD)]).set (ce.length + 1) (.lst ((tj a b js).map jntD)) = ce ++ [.lst ((ZZ.tl a b ls).map layD), .lst ((tj a b js).map jntD)] := by simp
    rw [e4, e4'] at s4
    simp only [eUn, eBin] at s3 s4
    unfold f_Core_turned b_Core_turned
    simp? only [-kLen, cfld0, cfld1, llen, eChain, t1, t2, t3, t4, ltI, k0, k1, List.length_append, List.append_assoc, s3, s4, fL, fJ, mk, finD]
  · have ltI : ¬ (a : Int) < (b : Int) := by omega
    have e : a = b := by omega
    subst e
    rw [tl_self] at mk ⊢
    unfold tj at mk ⊢
    rw [if_neg hab] at mk ⊢
    unfold f_Core_turned b_Core_turned
    simp? only [-kLen, cfld0, cfld1, llen, eChain, t1, t2, t3, t4, ltI, k0, k1, List.length_append, List.append_assoc, fL, fJ, mk, finD]
end
end ZZ
set_option Elab.async false
set_option linter.all false
set_option maxRecDepth 100000
set_option maxHeartbeats 4000000
namespace ZZ
open PySem PySem.Spec L2
section
variable {sl : Sl} {ce : List Cell}
theorem ixN_nat {n k : Nat} (h : k < n) : ixN n (k : Int) = some k := by
  unfold ixN
  rw [if_pos (by omega), if_pos (by omega), Int.toNat_natCast]
theorem setIx_ok {fo fi fv : DE} {n k : Nat} {ds : List D} {d : D} (hv : fv sl ce = .ok (.im d) ce) (ho : fo sl ce = .ok (.cell n) ce) (hi : fi sl ce = .ok (.im (.int (k : Nat))) ce) (hc : ce[n]? = some (.lst ds)) (hk : k < ds.length) : sSetIx fo fi fv sl ce = .nx sl (ce.set n (.lst (ds.set k d))) := by
  unfold sSetIx
  simp only [sExp, hv, ho, hi, hc, ixN_nat hk]
end
end ZZ
set_option Elab.async false
set_option linter.all false
set_option maxRecDepth 100000
set_option maxHeartbeats 4000000
namespace ZZ
open PySem PySem.Spec L2
def narHi (j : Jnt) (hi : Option Int) : Option Int := match j.2, hi with
  | none, h => h
  | some m, none => some m
  | some m, some h => if h < m then some h else some m
def ltO : Option Int → Int → Bool
  | none, _ => false
  | some m, x => decide (m < x)
def narrow (j : Jnt) (lo : Int) (hi : Option Int) : Option Jnt := if ltO (narHi j hi) (max j.1 lo) = true then none else some (max j.1 lo, narHi j hi)
theorem narrow_ok {j j' : Jnt} {lo : Int} {hi : Option Int} (h : okJ j) (e : narrow j lo hi = some j') : okJ j' := by
  unfold narrow at e
  split at e
  · cases e
  · rename_i hn
    cases e
    refine ⟨by have := h.1; simp only; omega, fun m hm => ?_⟩
    simp only at hm ⊢
    rw [hm] at hn
    unfold ltO at hn
    simp only [decide_eq_true_eq] at hn
    omega
section
variable {ls : List Lay} {js : List Jnt} {sl : Sl} {ce : List Cell} {l : Lay} {j : Jnt}
theorem okC_set (h : OkC ls js) {k : Nat} {j' : Jnt} (hj : okJ j') : OkC ls (js.set k j') := ⟨h.l, fun x hx => by
  rcases List.mem_or_eq_of_mem_set hx with hx | rfl
  · exact h.j x hx
  · exact hj, h.n, by rw [List.length_set]; exact h.m⟩
theorem isN_opt (o : Option Int) : kIsN false (.im (optD o)) (.im .non) sl ce = .ok (.im (.bl o.isNone)) ce := by cases o <;> rfl
theorem notN_opt (o : Option Int) : kIsN true (.im (optD o)) (.im .non) sl ce = .ok (.im (.bl o.isSome)) ce := by cases o <;> rfl
theorem m_narrowed (h : OkC ls js) {k : Nat} (hk : js[k]? = some j) (lo : Int) (hi : Option Int) : f_Core_narrowed [.im (coreD ls js), .im (.int (k : Nat)), .im (.int lo), .im (optD hi)] ce = (match narrow j lo hi with
    | none => .exc e_BadJoint [.int (k : Nat)] ce
    | some j' => .ok (.im (coreD ls (js.set k j'))) ce) := by
  have cj := fun ce => m_cjoint (ls := ls) (ce := ce) hk
  have kl := (List.getElem?_eq_some_iff.mp hk).1
  have i1 : ∀ (C K HI a5 a6 : Option Val), sIf (eBin kGt (eV 2) (eV 4)) (sSet 4 (eV 2)) sNil [C, K, some (.im (.int lo)), HI, some (.im (.int j.1)), a5, a6] ce = .nx [C, K, some (.im (.int lo)), HI, some (.im (.int (max j.1 lo))), a5, a6] ce := fun C K HI a5 a6 => by
    by_cases hc : j.1 < lo
    · have : max j.1 lo = lo := by omega
      simp? only [hc, this]
    · have : max j.1 lo = j.1 := by omega
      simp? only [hc, this]
  have i2 : ∀ (C K a2 a4 a6 : Option Val), sIf (eOr (eBin (kIsN false) (eV 5) (eC .non)) (eAnd (eBin (kIsN true) (eV 3) (eC .non)) (eBin kLt (eV 3) (eV 5)))) (sSet 5 (eV 3)) sNil [C, K, a2, some (.im (optD hi)), a4, some (.im (optD j.2)), a6] ce = .nx [C, K, a2, some (.im (optD hi)), a4, some (.im (optD (narHi j hi))), a6] ce := fun C K a2 a4 a6 => by
    unfold narHi
    cases hj : j.2 with
    | none => simp? only [isN_opt, Option.isNone]
    | some m =>
      cases hi with
      | none => simp? only [isN_opt, notN_opt, Option.isNone, Option.isSome]
      | some x =>
        have lt : kLt (.im (optD (some x))) (.im (optD (some m))) [C, K, a2, some (.im (optD (some x))), a4, some (.im (optD (some m))), a6] ce = .ok (.im (.bl (decide (x < m)))) ce := rfl
        by_cases hc : x < m
        · rw [decide_eq_true hc] at lt
          simp? only [-kLt, isN_opt, notN_opt, Option.isNone, lt, hc]
        · rw [decide_eq_false hc] at lt
          simp? only [-kLt, isN_opt, notN_opt, Option.isNone, lt, hc]
  have i3 : ∀ (C a2 a3 a6 : Option Val), sIf (eAnd (eBin (kIsN true) (eV 5) (eC .non)) (eBin kLt (eV 5) (eV 4))) (sRaise e_BadJoint [(eV 1)]) sNil [C, some (.im (.int (k : Nat))), a2, a3, some (.im (.int (max j.1 lo))), some (.im (optD (narHi j hi))), a6] ce =
      if ltO (narHi j hi) (max j.1 lo) = true then .exc e_BadJoint [.int (k : Nat)] [C, some (.im (.int (k : Nat))), a2, a3, some (.im (.int (max j.1 lo))), some (.im (optD (narHi j hi))), a6] ce else .nx [C, some (.im (.int (k : Nat))), a2, a3, some (.im (.int (max j.1 lo))), some (.im (optD (narHi j hi))), a6] ce := fun C a2 a3 a6 => by
    cases hn : narHi j hi with
    | none => simp? only [notN_opt, ltO]
    | some m =>
      have lt : kLt (.im (optD (some m))) (.im (.int (max j.1 lo))) [C, some (.im (.int (k : Nat))), a2, a3, some (.im (.int (max j.1 lo))), some (.im (optD (some m))), a6] ce = .ok (.im (.bl (decide (m < max j.1 lo)))) ce := rfl
      by_cases hc : m < max j.1 lo
      · rw [decide_eq_true hc] at lt
        have lq : ltO (some m) (max j.1 lo) = true := decide_eq_true hc
        simp? only [-kLt, notN_opt, lt, lq, sRaise, sArgs]
        rfl
      · rw [decide_eq_false hc] at lt
        have lq : ltO (some m) (max j.1 lo) = false := decide_eq_false hc
        simp? only [-kLt, notN_opt, lt, lq]
  have gj : ∀ D0 (sl : Sl), gT [gN 4, gN 5] (jntD D0) sl = some ((sl.set 4 (some (.im (.int D0.1)))).set 5 (some (.im (optD D0.2)))) := fun D0 sl => rfl
  have kl' : ∀ sl, kListC [.im (jntsD js)] sl ce = .ok (.cell ce.length) (ce ++ [.lst (js.map jntD)]) := fun sl => rfl
  unfold f_Core_narrowed b_Core_narrowed
  generalize sIf (eBin kGt (eV 2) (eV 4)) (sSet 4 (eV 2)) sNil = I1 at i1 ⊢
  generalize sIf (eOr (eBin (kIsN false) (eV 5) (eC .non)) (eAnd (eBin (kIsN true) (eV 3) (eC .non)) (eBin kLt (eV 3) (eV 5)))) (sSet 5 (eV 3)) sNil = I2 at i2 ⊢
  generalize sIf (eAnd (eBin (kIsN true) (eV 5) (eC .non)) (eBin kLt (eV 5) (eV 4))) (sRaise e_BadJoint [(eV 1)]) sNil = I3 at i3 ⊢
  unfold narrow
  by_cases hc : ltO (narHi j hi) (max j.1 lo) = true
  · rw [if_pos hc]
    simp only [hc, if_true] at i3
    simp? only [-gT, -gN, -gL, sAsg, isC_c, kMeth, cj, gj, i1, i2, i3, finD, List.take_length]
  · rw [if_neg hc]
    have ok : OkC ls (js.set k (max j.1 lo, narHi j hi)) := okC_set h (narrow_ok (h.j j (List.mem_of_getElem? hk)) (show narrow j lo hi = some (max j.1 lo, narHi j hi) by unfold narrow; rw [if_neg hc]))
    have mk := fun sl ce => m_cmake (sl := sl) (ce := ce) ok
    have st := setIx_ok (fo := eV 6) (fi := eV 1) (fv := eArgs [(eV 4), (eV 5)] kTup) (sl := [some (.im (coreD ls js)), some (.im (.int (k : Nat))), some (.im (.int lo)), some (.im (optD hi)), some (.im (.int (max j.1 lo))), some (.im (optD (narHi j hi))), some (.cell ce.length)]) (ce := ce ++ [.lst (js.map jntD)]) (n := ce.length) (k := k) (ds := js.map jntD) (d := jntD (max j.1 lo, narHi j hi))
      (by simp? only []; rfl) (by simp? only []) (by simp? only []) (by rw [ce_get0]; rfl) (by rw [List.length_map]; exact kl)
    rw [ce_set0, ← List.map_set] at st
    have fd : D.lst ((js.set k (max j.1 lo, narHi j hi)).map jntD) = jntsD (js.set k (max j.1 lo, narHi j hi)) := rfl
    simp only [eArgs, eBind, List.set_cons_zero] at st
    have i3' := fun C a2 a3 a6 => (i3 C a2 a3 a6).trans (if_neg hc)
    simp? only [-gT, -gN, -gL, sAsg, isC_c, kMeth, cj, gj, i1, i2, i3', cfld1, cfld0, kl', st, frz, fd, mk, finD, List.length_append, List.length_singleton, List.take_left']
end
end ZZ
set_option Elab.async false
set_option linter.all false
set_option maxRecDepth 100000
set_option maxHeartbeats 4000000
namespace ZZ
open PySem PySem.Spec L2
section
variable {sl : Sl} {ce : List Cell} {ls ls2 : List Lay} {js js2 : List Jnt} {l : Lay} {j : Jnt} {jo : Option (List Jnt)}
def joD : Option (List Jnt) → D
  | none => .non
  | some js => jntsD js
def tagD (w : Str) (i : Int) : D := .tup [.str w, .int i]
/-- what a making ends in, told as the law tells it -/
def gotD : Option (Nat × List D) → D
  | none => tagD "made" 0
  | some (1, [.int i]) => tagD "layer" i
  | some (2, [.int i]) => tagD "joint" i
  | some _ => tagD "core" 0
theorem coreE_cases {e : Nat × List D} (h : coreE ls jo = some e) : e = (e_BadCore, []) ∨ (∃ i : Nat, e = (e_BadLayer, [.int (i : Nat)])) ∨ ∃ i : Nat, e = (e_BadJoint, [.int (i : Nat)]) := by
  unfold coreE at h
  split at h
  · cases h; exact .inl rfl
  · split at h
    · cases h; exact .inr (.inl ⟨_, rfl⟩)
    · split at h
      · cases h
      · split at h
        · split at h
          · cases h; exact .inr (.inr ⟨_, rfl⟩)
          · cases h
        · cases h; exact .inl rfl
theorem m_got (hl : ∀ l ∈ ls, l.1.length ≤ 1000) (hn : ls.length ≤ 900) : f__law_got [.im (laysD ls), .im (joD jo)] ce = .ok (.im (gotD (coreE ls jo))) ce := by
  have l1 : ∀ sl ce, kListI [.im (laysD ls)] sl ce = .ok (.im (laysD ls)) ce := fun _ _ => rfl
  have r0 : e_BadCore < 5 := by decide
  have r1 : e_BadLayer < 5 := by decide
  have r2 : e_BadJoint < 5 := by decide
  have s0 : x_BadLayer e_BadCore = false := by decide
  have s1 : x_BadLayer e_BadLayer = true := by decide
  have s2 : x_BadLayer e_BadJoint = false := by decide
  have s3 : x_BadJoint e_BadCore = false := by decide
  have s4 : x_BadJoint e_BadJoint = true := by decide
  have s5 : x_BadCore e_BadCore = true := by decide
  have x1 : ∀ (i : Int) sl ce, kXf [1, 2, 3, 4] 0 (.exn e_BadLayer [.int i]) sl ce = .ok (.im (.int i)) ce := fun _ _ _ => rfl
  have x2 : ∀ (i : Int) sl ce, kXf [1, 2, 3, 4] 0 (.exn e_BadJoint [.int i]) sl ce = .ok (.im (.int i)) ce := fun _ _ _ => rfl
  cases jo with
  | none =>
    have nn : ∀ sl ce, kIsN false (.im .non) (.im .non) sl ce = .ok (.im (.bl true)) ce := fun _ _ => rfl
    have mk := fun sl ce => k_makeN (sl := sl) (ce := ce) (ls := ls) (V1 := .im (laysD ls)) rfl hl hn rfl
    cases hE : coreE ls none with
    | none =>
      rw [hE] at mk
      unfold f__law_got b__law_got sTryM
      simp? only [joD, nn, l1, mk, gotD, tagD, finD, List.take_length]
    | some e =>
      rw [hE] at mk
      rcases coreE_cases hE with rfl | ⟨i, rfl⟩ | ⟨i, rfl⟩
      · unfold f__law_got b__law_got sTryM
        simp? only [joD, nn, l1, mk, r0, hdl, s0, s3, s5, offD, gotD, tagD, finD, List.take_length]
      · unfold f__law_got b__law_got sTryM
        simp? only [joD, nn, l1, mk, r1, hdl, s1, x1, offD, gotD, tagD, finD, List.take_length]
      · unfold f__law_got b__law_got sTryM
        simp? only [joD, nn, l1, mk, r2, hdl, s2, s4, x2, offD, gotD, tagD, finD, List.take_length]
  | some js =>
    have nn : ∀ sl ce, kIsN false (.im (jntsD js)) (.im .non) sl ce = .ok (.im (.bl false)) ce := fun _ _ => rfl
    have l2 : ∀ sl ce, kListI [.im (jntsD js)] sl ce = .ok (.im (jntsD js)) ce := fun _ _ => rfl
    have mk := fun sl ce => k_makeX (sl := sl) (ce := ce) (ls := ls) (jo := some js) (V1 := .im (laysD ls)) (V2 := .im (jntsD js)) rfl rfl hl hn rfl rfl
    cases hE : coreE ls (some js) with
    | none =>
      rw [hE] at mk
      unfold f__law_got b__law_got sTryM
      simp? only [joD, nn, l1, l2, mk, gotD, tagD, finD, List.take_length]
    | some e =>
      rw [hE] at mk
      rcases coreE_cases hE with rfl | ⟨i, rfl⟩ | ⟨i, rfl⟩
      · unfold f__law_got b__law_got sTryM
        simp? only [joD, nn, l1, l2, mk, r0, hdl, s0, s3, s5, offD, gotD, tagD, finD, List.take_length]
      · unfold f__law_got b__law_got sTryM
        simp? only [joD, nn, l1, l2, mk, r1, hdl, s1, x1, offD, gotD, tagD, finD, List.take_length]
      · unfold f__law_got b__law_got sTryM
        simp? only [joD, nn, l1, l2, mk, r2, hdl, s2, s4, x2, offD, gotD, tagD, finD, List.take_length]
theorem notin_letters (c : Nat) : kInS true (.im (.str (st [c]))) (.im (.str "abcdefghijklmnopqrstuvwxyz")) sl ce = .ok (.im (.bl (!decide (97 ≤ c ∧ c ≤ 122)))) ce := by
  have : decide (c ∈ List.range' 97 26) = decide (97 ≤ c ∧ c ≤ 122) := by
    refine decide_eq_decide.mpr ?_
    rw [List.mem_range'_1]
    omega
  unfold kInS st
  simp only [letters_cps, this]
  rfl
theorem valid_loop (a0 : Option Val) : ∀ (cs : List Nat) (x1 : Option Val), ∃ y1, forD (gN 1) lp__law_valid_0 (cs.map fun c => D.str (st [c])) [a0, x1] ce = if (cs.all fun c => decide (97 ≤ c ∧ c ≤ 122)) = true then .nx [a0, y1] ce else .rt (.im (.bl false)) ce
  | [], x1 => ⟨x1, by rw [List.map_nil, forD]; rfl⟩
  | c :: cs, x1 => by
    have ni := fun sl ce => notin_letters (sl := sl) (ce := ce) c
    obtain ⟨y1, ih⟩ := valid_loop a0 cs (some (.im (.str (st [c]))))
    by_cases h : 97 ≤ c ∧ c ≤ 122
    · refine ⟨y1, ?_⟩
      rw [decide_eq_true h] at ni
      have e : lp__law_valid_0 [a0, some (.im (.str (st [c])))] ce = .nx [a0, some (.im (.str (st [c])))] ce := by
        unfold lp__law_valid_0
        simp? only [ni]
      rw [List.map_cons, forD]
      simp only [gN, List.set_cons_zero, List.set_cons_succ, e, ih, List.all_cons, decide_eq_true h, Bool.true_and]
    · refine ⟨none, ?_⟩
      rw [decide_eq_false h] at ni
      have e : lp__law_valid_0 [a0, some (.im (.str (st [c])))] ce = .rt (.im (.bl false)) ce := by
        unfold lp__law_valid_0
        simp? only [ni]
      rw [List.map_cons, forD]
      simp only [gN, List.set_cons_zero, List.set_cons_succ, e, List.all_cons, decide_eq_false h, Bool.false_and, Bool.false_eq_true, if_false]
theorem m_valid (hl : l.1.length ≤ 1000) : f__law_valid [.im (layD l)] ce = .ok (.im (.bl (okLb l))) ce := by
  obtain ⟨cs, t⟩ := l
  simp only at hl
  have le : ∀ (i j : Int) sl ce, kLe (.im (.int i)) (.im (.int j)) sl ce = .ok (.im (.bl (decide (i ≤ j)))) ce := fun _ _ _ _ => rfl
  have lt : ∀ (i j : Int) sl ce, kLt (.im (.int i)) (.im (.int j)) sl ce = .ok (.im (.bl (decide (i < j)))) ce := fun _ _ _ _ => rfl
  have d1 : decide ((1 : Int) ≤ (cs.length : Int)) = decide (1 ≤ cs.length) := decide_eq_decide.mpr (by omega)
  have d2 : decide ((cs.length : Int) ≤ 12) = decide (cs.length ≤ 12) := decide_eq_decide.mpr (by omega)
  have d3 : decide (t < 1) = !decide (1 ≤ t) := by
    rw [← decide_not]
    exact decide_eq_decide.mpr (by omega)
  have i0 : ∀ sl ce, kIx (.im (layD (cs, t))) (.im (.int 0)) sl ce = .ok (.im (.str (st cs))) ce := fun _ _ => rfl
  have i1 : ∀ sl ce, kIx (.im (layD (cs, t))) (.im (.int 1)) sl ce = .ok (.im (.int t)) ce := fun _ _ => rfl
  obtain ⟨y1, lp⟩ := valid_loop (ce := ce) (some (.im (layD (cs, t)))) cs none
  have fo : sFor (iExp (eBin kIx (eV 0) (eC (.int 0))) itS) (gN 1) lp__law_valid_0 [some (.im (layD (cs, t))), none] ce = forD (gN 1) lp__law_valid_0 (cs.map fun c => D.str (st [c])) [some (.im (layD (cs, t))), none] ce := by
    unfold sFor
    simp? only [i0, st_signs]
  rw [lp] at fo
  generalize hF : sFor (iExp (eBin kIx (eV 0) (eC (.int 0))) itS) (gN 1) lp__law_valid_0 = F at fo
  unfold f__law_valid b__law_valid okLb
  rw [hF]
  simp only
  cases h1 : decide (1 ≤ cs.length) with
  | false => simp? only [-kCmp, eChain, i0, st_len, show cs.length ≤ 16777216 by omega, le, d1, h1, finD, List.take_length]
  | true =>
    cases h2 : decide (cs.length ≤ 12) with
    | false => simp? only [-kCmp, eChain, i0, st_len, show cs.length ≤ 16777216 by omega, le, d1, d2, h1, h2, finD, List.take_length]
    | true =>
      cases h4 : decide (1 ≤ t) with
      | false => simp? only [-kCmp, eChain, i0, i1, st_len, show cs.length ≤ 16777216 by omega, le, lt, d1, d2, d3, h1, h2, h4, finD, List.take_length]
      | true =>
        cases h3 : (cs.all fun c => decide (97 ≤ c ∧ c ≤ 122)) with
        | false =>
          rw [h3] at fo
          simp? only [-kCmp, eChain, i0, i1, st_len, show cs.length ≤ 16777216 by omega, le, lt, d1, d2, d3, h1, h2, h4, fo, finD, List.take_length]
        | true =>
          rw [h3] at fo
          simp? only [-kCmp, eChain, i0, i1, st_len, show cs.length ≤ 16777216 by omega, le, lt, d1, d2, d3, h1, h2, h4, fo, finD, List.take_length]
theorem due0 (hl : ∀ l ∈ ls, l.1.length ≤ 1000) (a1 : Option Val) : ∀ (m k : Nat) (x2 : Option Val), k + m = ls.length → match badF okLb k (ls.drop k) with
    | none => ∃ y2, forD (gN 2) lp__law_due_0 ((List.range' k m).map fun (i : Nat) => D.int (i : Int)) [some (.im (laysD ls)), a1, x2] ce = .nx [some (.im (laysD ls)), a1, y2] ce
    | some i => forD (gN 2) lp__law_due_0 ((List.range' k m).map fun (i : Nat) => D.int (i : Int)) [some (.im (laysD ls)), a1, x2] ce = .rt (.im (tagD "layer" (i : Nat))) ce
  | 0, k, x2, hk => by
    rw [List.drop_eq_nil_of_le (by omega)]
    exact ⟨x2, by rw [List.range'_zero, List.map_nil, forD]⟩
  | m + 1, k, x2, hk => by
    have hlt : k < ls.length := by omega
    have ih := due0 hl a1 m (k + 1) (some (.im (.int (k : Nat)))) (by omega)
    rw [List.drop_eq_getElem_cons hlt]
    have ix := fun sl ce => lix (sl := sl) (ce := ce) (List.getElem?_eq_getElem hlt)
    have mv := fun ce => m_valid (ce := ce) (hl _ (List.getElem_mem hlt))
    unfold badF
    cases hb : okLb ls[k] with
    | true =>
      rw [hb] at mv
      simp only [if_true]
      have e : lp__law_due_0 [some (.im (laysD ls)), a1, some (.im (.int (k : Nat)))] ce = .nx [some (.im (laysD ls)), a1, some (.im (.int (k : Nat)))] ce := by
        unfold lp__law_due_0
        simp? only [ix, mv]
      have key : forD (gN 2) lp__law_due_0 ((List.range' k (m + 1)).map fun (i : Nat) => D.int (i : Int)) [some (.im (laysD ls)), a1, x2] ce = forD (gN 2) lp__law_due_0 ((List.range' (k + 1) m).map fun (i : Nat) => D.int (i : Int)) [some (.im (laysD ls)), a1, some (.im (.int (k : Nat)))] ce := by
        rw [List.range'_succ, List.map_cons, forD]
        simp only [gN, List.set_cons_zero, List.set_cons_succ, e]
      rw [key]
      exact ih
    | false =>
      rw [hb] at mv
      simp only [Bool.false_eq_true, if_false]
      have e : lp__law_due_0 [some (.im (laysD ls)), a1, some (.im (.int (k : Nat)))] ce = .rt (.im (tagD "layer" (k : Nat))) ce := by
        unfold lp__law_due_0 tagD
        simp? only [ix, mv]
      rw [List.range'_succ, List.map_cons, forD]
      simp only [gN, List.set_cons_zero, List.set_cons_succ, e]
theorem due1 (a0 : Option Val) : ∀ (m k : Nat) (x2 : Option Val), k + m = js.length → match badF okJb k (js.drop k) with
    | none => ∃ y2, forD (gN 2) lp__law_due_1 ((List.range' k m).map fun (i : Nat) => D.int (i : Int)) [a0, some (.im (jntsD js)), x2] ce = .nx [a0, some (.im (jntsD js)), y2] ce
    | some i => forD (gN 2) lp__law_due_1 ((List.range' k m).map fun (i : Nat) => D.int (i : Int)) [a0, some (.im (jntsD js)), x2] ce = .rt (.im (tagD "joint" (i : Nat))) ce
  | 0, k, x2, hk => by
    rw [List.drop_eq_nil_of_le (by omega)]
    exact ⟨x2, by rw [List.range'_zero, List.map_nil, forD]⟩
  | m + 1, k, x2, hk => by
    have hlt : k < js.length := by omega
    have ih := due1 a0 m (k + 1) (some (.im (.int (k : Nat)))) (by omega)
    rw [List.drop_eq_getElem_cons hlt]
    have ix := fun sl ce => jix (sl := sl) (ce := ce) (List.getElem?_eq_getElem hlt)
    have lt : ∀ (i j : Int) sl ce, kLt (.im (.int i)) (.im (.int j)) sl ce = .ok (.im (.bl (decide (i < j)))) ce := fun _ _ _ _ => rfl
    have n0 : ∀ sl ce, kIsN true (.im .non) (.im .non) sl ce = .ok (.im (.bl false)) ce := fun _ _ => rfl
    have n1 : ∀ i sl ce, kIsN true (.im (.int i)) (.im .non) sl ce = .ok (.im (.bl true)) ce := fun _ _ _ => rfl
    have body : lp__law_due_1 [a0, some (.im (jntsD js)), some (.im (.int (k : Nat)))] ce = if okJb js[k] then .nx [a0, some (.im (jntsD js)), some (.im (.int (k : Nat)))] ce else .rt (.im (tagD "joint" (k : Nat))) ce := by
      generalize js[k] = j at ix
      obtain ⟨a, o⟩ := j
      have j0 : ∀ sl ce, kIx (.im (jntD (a, o))) (.im (.int 0)) sl ce = .ok (.im (.int a)) ce := fun _ _ => rfl
      have j1 : ∀ sl ce, kIx (.im (jntD (a, o))) (.im (.int 1)) sl ce = .ok (.im (optD o)) ce := fun _ _ => rfl
      have d0 : decide (a < 0) = !decide (0 ≤ a) := by
        rw [← decide_not]
        exact decide_eq_decide.mpr (by omega)
      unfold lp__law_due_1 okJb tagD
      simp only
      cases h0 : decide (0 ≤ a) with
      | false => simp? only [-kCmp, ix, j0, lt, d0, h0]
      | true =>
        cases o with
        | none => simp? only [-kCmp, ix, j0, j1, optD, lt, n0, d0, h0]
        | some b =>
          have d1 : decide (b < a) = !decide (a ≤ b) := by
            rw [← decide_not]
            exact decide_eq_decide.mpr (by omega)
          cases h1 : decide (a ≤ b) with
          | false => simp? only [-kCmp, ix, j0, j1, optD, lt, n1, d0, d1, h0, h1]
          | true => simp? only [-kCmp, ix, j0, j1, optD, lt, n1, d0, d1, h0, h1]
    unfold badF
    cases hb : okJb js[k] with
    | true =>
      rw [hb] at body
      simp only [if_true] at body ⊢
      have key : forD (gN 2) lp__law_due_1 ((List.range' k (m + 1)).map fun (i : Nat) => D.int (i : Int)) [a0, some (.im (jntsD js)), x2] ce = forD (gN 2) lp__law_due_1 ((List.range' (k + 1) m).map fun (i : Nat) => D.int (i : Int)) [a0, some (.im (jntsD js)), some (.im (.int (k : Nat)))] ce := by
        rw [List.range'_succ, List.map_cons, forD]
        simp only [gN, List.set_cons_zero, List.set_cons_succ, body]
      rw [key]
      exact ih
    | false =>
      rw [hb] at body
      simp only [Bool.false_eq_true, if_false] at body ⊢
      rw [List.range'_succ, List.map_cons, forD]
      simp only [gN, List.set_cons_zero, List.set_cons_succ, body]
theorem m_due (hl : ∀ l ∈ ls, l.1.length ≤ 1000) (hn : ls.length ≤ 900) (hj : ∀ js, jo = some js → js.length ≤ 900) : f__law_due [.im (laysD ls), .im (joD jo)] ce = .ok (.im (gotD (coreE ls jo))) ce := by
  have gt : ∀ (i j : Int) sl ce, kGt (.im (.int i)) (.im (.int j)) sl ce = .ok (.im (.bl (decide (j < i)))) ce := fun _ _ _ _ => rfl
  have ll := fun sl ce => llen (sl := sl) (ce := ce) (ls := ls)
  have q0 := due0 (ce := ce) hl (some (.im (joD jo))) ls.length 0 none (by omega)
  rw [List.drop_zero, ← List.range_eq_range'] at q0
  have r0 := rng1 ls.length (by omega)
  have f0 : ∀ x2, sFor (iArgs [(eArgs [(eV 0)] kLen)] kRng1) (gN 2) lp__law_due_0 [some (.im (laysD ls)), some (.im (joD jo)), x2] ce = forD (gN 2) lp__law_due_0 ((List.range ls.length).map fun (i : Nat) => D.int (i : Int)) [some (.im (laysD ls)), some (.im (joD jo)), x2] ce := fun x2 => by
    unfold sFor
    simp? only [-kLen, ll, r0]
  generalize hF0 : sFor (iArgs [(eArgs [(eV 0)] kLen)] kRng1) (gN 2) lp__law_due_0 = F0 at f0
  generalize hF1 : sFor (iArgs [(eArgs [(eV 1)] kLen)] kRng1) (gN 2) lp__law_due_1 = F1
  unfold f__law_due b__law_due coreE
  rw [hF0, hF1]
  by_cases t1 : 20 < ls.length
  · rw [if_pos t1]
    have d1 : decide ((20 : Int) < (ls.length : Int)) = true := decide_eq_true (by omega)
    simp? only [-kLen, -kCmp, ll, gt, d1, gotD, tagD, finD, List.take_length]
  · rw [if_neg t1]
    have d1 : decide ((20 : Int) < (ls.length : Int)) = false := decide_eq_false (by omega)
    cases hb : badF okLb 0 ls with
    | some i =>
      rw [hb] at q0
      simp? only [-kLen, -kCmp, ll, gt, d1, f0, q0, gotD, tagD, finD, List.take_length]
    | none =>
      rw [hb] at q0
      obtain ⟨y2, q0⟩ := q0
      cases jo with
      | none =>
        have nn : ∀ sl ce, kIsN false (.im .non) (.im .non) sl ce = .ok (.im (.bl true)) ce := fun _ _ => rfl
        simp only [joD] at f0 q0
        simp? only [-kLen, -kCmp, ll, gt, d1, f0, q0, joD, nn, gotD, tagD, finD, List.take_length]
      | some js =>
        have hj := hj js rfl
        have nn : ∀ sl ce, kIsN false (.im (jntsD js)) (.im .non) sl ce = .ok (.im (.bl false)) ce := fun _ _ => rfl
        have jl := fun sl ce => jlen (sl := sl) (ce := ce) (js := js)
        have ad : ∀ sl ce, kAdd (.im (.int (ls.length : Nat))) (.im (.int 1)) sl ce = .ok (.im (.int ((ls.length : Int) + 1))) ce := fun _ _ => rfl
        have ne : ∀ sl ce, kNe (.im (.int (js.length : Nat))) (.im (.int ((ls.length : Int) + 1))) sl ce = .ok (.im (.bl (!decide (js.length = ls.length + 1)))) ce := fun sl ce => by
          show kEqG true _ _ sl ce = _
          rw [eq_int]
          simp only [if_true]
          congr 4
          exact decide_eq_decide.mpr (by omega)
        simp only [joD] at f0 q0
        have q1 := due1 (ce := ce) (js := js) (some (.im (laysD ls))) js.length 0 y2 (by omega)
        rw [List.drop_zero, ← List.range_eq_range'] at q1
        have r1 := rng1 js.length (by omega)
        have f1 : ∀ x2, F1 [some (.im (laysD ls)), some (.im (jntsD js)), x2] ce = forD (gN 2) lp__law_due_1 ((List.range js.length).map fun (i : Nat) => D.int (i : Int)) [some (.im (laysD ls)), some (.im (jntsD js)), x2] ce := fun x2 => by
          rw [← hF1]
          unfold sFor
          simp? only [-kLen, jl, r1]
        by_cases hm : js.length = ls.length + 1
        · rw [decide_eq_true hm] at ne
          simp only [if_pos hm]
          cases hq : badF okJb 0 js with
          | some i =>
            rw [hq] at q1
            simp? only [-kLen, -kCmp, -kAdd, ll, jl, gt, d1, f0, q0, joD, nn, ad, ne, f1, q1, gotD, tagD, finD, List.take_length]
          | none =>
            rw [hq] at q1
            obtain ⟨z2, q1⟩ := q1
            simp? only [-kLen, -kCmp, -kAdd, ll, jl, gt, d1, f0, q0, joD, nn, ad, ne, f1, q1, gotD, tagD, finD, List.take_length]
        · rw [decide_eq_false hm] at ne
          simp only [if_neg hm]
          simp? only [-kLen, -kCmp, -kAdd, ll, jl, gt, d1, f0, q0, joD, nn, ad, ne, gotD, tagD, finD, List.take_length]
end
end ZZ
set_option Elab.async false
set_option linter.all false
set_option maxRecDepth 100000
set_option maxHeartbeats 4000000
namespace ZZ
open PySem PySem.Spec L2
section
variable {sl : Sl} {ce : List Cell} {ls ls2 : List Lay} {js js2 : List Jnt} {l : Lay} {j : Jnt} {jo : Option (List Jnt)} {ce0 : List Cell}
theorem tag_refl (w : Str) (hw : PyData.strOk w = true) (i : Int) (neg : Bool) : kEqG neg (.im (tagD w i)) (.im (tagD w i)) sl ce = .ok (.im (.bl (!neg))) ce := by
  have h : okD 60 (tagD w i) = true := by simp [tagD, okD, okDs, hw]
  rw [eq_gd h h, eqD_refl _ 60 h]
  cases neg <;> rfl
theorem w_core : PyData.strOk "core" = true := by decide +kernel
theorem w_layer : PyData.strOk "layer" = true := by decide +kernel
theorem w_joint : PyData.strOk "joint" = true := by decide +kernel
theorem w_made : PyData.strOk "made" = true := by decide +kernel
theorem tag_got (o : Option (Nat × List D)) (neg : Bool) : kEqG neg (.im (gotD o)) (.im (gotD o)) sl ce = .ok (.im (.bl (!neg))) ce := by
  unfold gotD
  split
  · exact tag_refl _ w_made _ _
  · exact tag_refl _ w_layer _ _
  · exact tag_refl _ w_joint _ _
  · exact tag_refl _ w_core _ _
def gotW : Option (Nat × List D) → Str
  | none => "made"
  | some (1, [.int _]) => "layer"
  | some (2, [.int _]) => "joint"
  | some _ => "core"
theorem eq_word (a b : Str) (ha : PyData.strOk a = true) (hb : PyData.strOk b = true) (neg : Bool) {r : Bool} (hr : decide (a = b) = r) : kEqG neg (.im (.str a)) (.im (.str b)) sl ce = .ok (.im (.bl (if neg then !r else r))) ce := by
  rw [eq_str ha hb, hr]
theorem m_base {e : Nat × List D} (hE : coreE ls jo = some e) (hl : ∀ l ∈ ls, l.1.length ≤ 1000) (hn : ls.length ≤ 900) : f__law_base [.im (laysD ls), .im (joD jo), .im (.str (gotW (some e)))] ce = .ok (.im (.bl true)) ce := by
  have mk : ∀ sl ce, kMake c_Core 2 f_Core___init__ [.im (laysD ls), .im (joD jo)] sl ce = .exc e.1 e.2 ce := fun sl ce => by
    have m := k_makeX (sl := sl) (ce := ce) (ls := ls) (jo := jo) (V1 := .im (laysD ls)) (V2 := .im (joD jo)) rfl (by cases jo <;> rfl) hl hn rfl rfl
    rw [hE] at m
    exact m
  have r0 : e_BadCore < 5 := by decide
  have r1 : e_BadLayer < 5 := by decide
  have r2 : e_BadJoint < 5 := by decide
  have s0 : x_SiltError e_BadCore = true := by decide
  have s1 : x_SiltError e_BadLayer = true := by decide
  have s2 : x_SiltError e_BadJoint = true := by decide
  have ll : ∀ sl ce, kEq (.im (.str "layer")) (.im (.str "layer")) sl ce = .ok (.im (.bl true)) ce := fun _ _ => eq_word _ _ w_layer w_layer false (by decide +kernel)
  have lj : ∀ sl ce, kEq (.im (.str "layer")) (.im (.str "joint")) sl ce = .ok (.im (.bl false)) ce := fun _ _ => eq_word _ _ w_layer w_joint false (by decide +kernel)
  have jl : ∀ sl ce, kEq (.im (.str "joint")) (.im (.str "layer")) sl ce = .ok (.im (.bl false)) ce := fun _ _ => eq_word _ _ w_joint w_layer false (by decide +kernel)
  have jj : ∀ sl ce, kEq (.im (.str "joint")) (.im (.str "joint")) sl ce = .ok (.im (.bl true)) ce := fun _ _ => eq_word _ _ w_joint w_joint false (by decide +kernel)
  have cl : ∀ sl ce, kEq (.im (.str "core")) (.im (.str "layer")) sl ce = .ok (.im (.bl false)) ce := fun _ _ => eq_word _ _ w_core w_layer false (by decide +kernel)
  have cj : ∀ sl ce, kEq (.im (.str "core")) (.im (.str "joint")) sl ce = .ok (.im (.bl false)) ce := fun _ _ => eq_word _ _ w_core w_joint false (by decide +kernel)
  have bb : ∀ (b : Bool) sl ce, kNe (.im (.bl b)) (.im (.bl b)) sl ce = .ok (.im (.bl false)) ce := fun b _ _ => by cases b <;> rfl
  have k : ∀ (x : Nat → Bool) (c : Nat) (ds : List D) (b : Bool), x c = b → c < 1000 → ∀ sl ce, kIsE (fun c => some (x c)) (.exn c ds) sl ce = .ok (.im (.bl b)) ce := fun x c ds b h1 h2 sl ce => by
    unfold kIsE
    simp only [if_pos h2, h1]
  rcases coreE_cases hE with rfl | ⟨i, rfl⟩ | ⟨i, rfl⟩
  · have k1 := k x_BadLayer e_BadCore [] false (by decide) (by decide)
    have k2 := k x_BadJoint e_BadCore [] false (by decide) (by decide)
    have k3 := k x_BadCore e_BadCore [] true (by decide) (by decide)
    have k4 := k x_ValueError e_BadCore [] true (by decide) (by decide)
    unfold f__law_base b__law_base sTry
    simp? only [gotW, mk, r0, s0, k1, k2, k3, k4, cl, cj, bb, offD, finD, List.take_length]
  · have k1 := k x_BadLayer e_BadLayer [.int (i : Nat)] true (by decide) (by decide)
    have k2 := k x_BadJoint e_BadLayer [.int (i : Nat)] false (by decide) (by decide)
    have k3 := k x_BadCore e_BadLayer [.int (i : Nat)] true (by decide) (by decide)
    have k4 := k x_ValueError e_BadLayer [.int (i : Nat)] true (by decide) (by decide)
    unfold f__law_base b__law_base sTry
    simp? only [gotW, mk, r1, s1, k1, k2, k3, k4, ll, lj, bb, offD, finD, List.take_length]
  · have k1 := k x_BadLayer e_BadJoint [.int (i : Nat)] false (by decide) (by decide)
    have k2 := k x_BadJoint e_BadJoint [.int (i : Nat)] true (by decide) (by decide)
    have k3 := k x_BadCore e_BadJoint [.int (i : Nat)] true (by decide) (by decide)
    have k4 := k x_ValueError e_BadJoint [.int (i : Nat)] true (by decide) (by decide)
    unfold f__law_base b__law_base sTry
    simp? only [gotW, mk, r2, s2, k1, k2, k3, k4, jl, jj, bb, offD, finD, List.take_length]
theorem chr_st : (" !\"#$&'()*+,-./0123456789:;<=>?@ABCDEFGHIJKLMNOPQRSTUVWXYZ[\\]^_`" : Str) = st ([32, 33, 34, 35, 36] ++ List.range' 38 59) := by decide +kernel
theorem chr_st2 : ("abcdefghijklmnopqrstuvwxyz{|}~" : Str) = st (List.range' 97 30) := by decide +kernel
theorem chr_len : ([32, 33, 34, 35, 36] ++ List.range' 38 59 ++ List.range' 97 30).length = 94 := by decide
theorem chr_lt : ∀ c ∈ [32, 33, 34, 35, 36] ++ List.range' 38 59 ++ List.range' 97 30, c < 128 := by decide
theorem m_char (r : Int) (h0 : 0 ≤ r) (h1 : r < 94) : ∃ c : Nat, c < 128 ∧ ∀ ce, f__law_char [.im (.int r)] ce = .ok (.im (.str (st [c]))) ce := by
  obtain ⟨n, rfl⟩ : ∃ n : Nat, r = (n : Int) := ⟨r.toNat, by omega⟩
  obtain ⟨L, hL⟩ : ∃ L, L = [32, 33, 34, 35, 36] ++ List.range' 38 59 ++ List.range' 97 30 := ⟨_, rfl⟩
  have ln : L.length = 94 := by rw [hL]; exact chr_len
  have hg : L[n]? = some L[n] := List.getElem?_eq_getElem (by omega)
  refine ⟨L[n], by have := chr_lt; rw [← hL] at this; exact this _ (List.getElem_mem _), fun ce => ?_⟩
  have ad : ∀ sl ce, kAdd (.im (.str " !\"#$&'()*+,-./0123456789:;<=>?@ABCDEFGHIJKLMNOPQRSTUVWXYZ[\\]^_`")) (.im (.str "abcdefghijklmnopqrstuvwxyz{|}~")) sl ce = .ok (.im (.str (st L))) ce := fun sl ce => by
    rw [chr_st, chr_st2, add_st _ _ (by decide), hL]
  have ix := fun sl ce => ix_st (sl := sl) (ce := ce) L n L[n] hg (by omega)
  have md : ∀ sl ce, kMod (.im (.int (n : Nat))) (.im (.int 94)) sl ce = .ok (.im (.int (n : Nat))) ce := fun sl ce => by
    unfold kMod
    simp only
    rw [if_pos (by decide), Int.emod_eq_of_lt h0 h1]
  unfold f__law_char b__law_char
  simp? only [-kAdd, -kMod, ad, md, ix, finD, List.take_length]
end
end ZZ
set_option Elab.async false
set_option linter.all false
set_option maxRecDepth 100000
set_option maxHeartbeats 4000000
namespace ZZ
open PySem PySem.Spec L2
section
variable {sl : Sl} {ce : List Cell} {ls ls2 : List Lay} {js js2 : List Jnt} {l : Lay} {j : Jnt} {jo : Option (List Jnt)} {ce0 : List Cell}
theorem got_one (l : Lay) : gotD (coreE [l] none) = if okLb l = true then tagD "made" 0 else tagD "layer" 0 := by
  unfold coreE
  rw [if_neg (by simp)]
  simp only [badF]
  cases okLb l <;> rfl
theorem signs_in (cs : List Nat) (hc : cs.length ≤ 900) (c : Nat) (a0 a2 : Option Val) : ∀ (as : List Nat) (x4 x5 x6 : Option Val), (∀ a ∈ as, a ≤ cs.length) → ∃ y4 y5 y6, forD (gN 4) lp__law_signs_0 (as.map fun (a : Nat) => D.int (a : Int)) [a0, some (.im (.str (st cs))), a2, some (.im (.str (st [c]))), x4, x5, x6] ce = .nx [a0, some (.im (.str (st cs))), a2, some (.im (.str (st [c]))), y4, y5, y6] ce
  | [], x4, x5, x6, h => ⟨x4, x5, x6, by rw [List.map_nil, forD]⟩
  | a :: as, x4, x5, x6, h => by
    have ha : a ≤ cs.length := h a (List.mem_cons_self ..)
    obtain ⟨L, hL⟩ : ∃ L : List Nat, L = cs.take a ++ [c] ++ cs.drop a := ⟨_, rfl⟩
    have tl : (cs.take a).length ≤ cs.length := by rw [List.length_take]; omega
    have dl : (cs.drop a).length ≤ cs.length := by rw [List.length_drop]; omega
    have e1 := fun sl ce => st_to (sl := sl) (ce := ce) cs a ha (by omega)
    have e2 := fun sl ce => st_from (sl := sl) (ce := ce) cs a ha (by omega)
    have e3 := fun sl ce => add_st (sl := sl) (ce := ce) (cs.take a) [c] (by rw [List.length_singleton]; omega)
    have e4 := fun sl ce => add_st (sl := sl) (ce := ce) (cs.take a ++ [c]) (cs.drop a) (by rw [List.length_append, List.length_singleton]; omega)
    rw [← hL] at e4
    have hll : L.length ≤ 1000 := by
      rw [hL, List.length_append, List.length_append, List.length_take, List.length_drop, List.length_singleton]
      omega
    have lay : ∀ X : D, X = .tup [.str (st L), .int 1] → X = layD (L, 1) := fun X h => h
    have mv := fun ce => m_valid (ce := ce) (l := (L, 1)) hll
    have mg := fun ce => m_got (ce := ce) (ls := [(L, 1)]) (jo := none) (fun l hl => by rw [List.mem_singleton.mp hl]; exact hll) (by simp)
    rw [got_one] at mg
    simp only [laysD, List.map_cons, List.map_nil, joD] at mg
    unfold layD at mv mg
    simp only at mv mg
    have nm : ∀ sl ce, kNe (.im (tagD "made" 0)) (.im (tagD "made" 0)) sl ce = .ok (.im (.bl false)) ce := fun sl ce => tag_refl _ w_made _ true
    have nl : ∀ sl ce, kNe (.im (tagD "layer" 0)) (.im (tagD "layer" 0)) sl ce = .ok (.im (.bl false)) ce := fun sl ce => tag_refl _ w_layer _ true
    have body : ∃ y5 y6, lp__law_signs_0 [a0, some (.im (.str (st cs))), a2, some (.im (.str (st [c]))), some (.im (.int (a : Nat))), x5, x6] ce = .nx [a0, some (.im (.str (st cs))), a2, some (.im (.str (st [c]))), some (.im (.int (a : Nat))), y5, y6] ce := by
      unfold lp__law_signs_0
      unfold tagD at mg nm nl
      cases hb : okLb (L, 1) with
      | true =>
        rw [hb] at mv mg
        simp only [if_true] at mg
        exact ⟨some (.im (.tup [.str (st L), .int 1])), some (.im (.tup [.str "made", .int 0])), by simp? only [-kAdd, eSlice, eOpt, e1, e2, e3, e4, mv, mg, nm]⟩
      | false =>
        rw [hb] at mv mg
        simp only [Bool.false_eq_true, if_false] at mg
        exact ⟨some (.im (.tup [.str (st L), .int 1])), some (.im (.tup [.str "layer", .int 0])), by simp? only [-kAdd, eSlice, eOpt, e1, e2, e3, e4, mv, mg, nl]⟩
    obtain ⟨z5, z6, body⟩ := body
    obtain ⟨y4, y5, y6, ih⟩ := signs_in cs hc c a0 a2 as (some (.im (.int (a : Nat)))) z5 z6 fun b hb => h b (List.mem_cons_of_mem _ hb)
    refine ⟨y4, y5, y6, ?_⟩
    rw [List.map_cons, forD]
    simp only [gN, List.set_cons_zero, List.set_cons_succ, body, ih]
theorem signs_out (cs : List Nat) (hc : cs.length ≤ 900) (r : Nat) (hr : r ≤ cs.length) (a0 : Option Val) : ∀ (qs : List Nat) (x3 x4 x5 x6 : Option Val), ∃ y3 y4 y5 y6, forD (gN 3) lp__law_signs_1 (qs.map fun c => D.str (st [c])) [a0, some (.im (.str (st cs))), some (.im (.int (r : Nat))), x3, x4, x5, x6] ce = .nx [a0, some (.im (.str (st cs))), some (.im (.int (r : Nat))), y3, y4, y5, y6] ce
  | [], x3, x4, x5, x6 => ⟨x3, x4, x5, x6, by rw [List.map_nil, forD]⟩
  | q :: qs, x3, x4, x5, x6 => by
    obtain ⟨z4, z5, z6, e⟩ := signs_in (ce := ce) cs hc q a0 (some (.im (.int (r : Nat)))) [0, r, cs.length] x4 x5 x6 (fun a ha => by
      simp only [List.mem_cons, List.not_mem_nil, or_false] at ha
      omega)
    obtain ⟨y3, y4, y5, y6, ih⟩ := signs_out cs hc r hr a0 qs (some (.im (.str (st [q])))) z4 z5 z6
    refine ⟨y3, y4, y5, y6, ?_⟩
    have kl : ∀ sl ce, kLen [.im (.str (st cs))] sl ce = .ok (.im (.int (cs.length : Nat))) ce := fun sl ce => by
      unfold kLen
      simp only [st_len, LINE, show cs.length ≤ 16777216 by omega, if_true]
    have body : lp__law_signs_1 [a0, some (.im (.str (st cs))), some (.im (.int (r : Nat))), some (.im (.str (st [q]))), x4, x5, x6] ce = .nx [a0, some (.im (.str (st cs))), some (.im (.int (r : Nat))), some (.im (.str (st [q]))), z4, z5, z6] ce := by
      unfold lp__law_signs_1
      simp only [List.map_cons, List.map_nil] at e
      have z0 : ((0 : Nat) : Int) = 0 := rfl
      rw [z0] at e
      simp? only [-kLen, kl, e]
    rw [List.map_cons, forD]
    simp only [gN, List.set_cons_zero, List.set_cons_succ, body, ih]
theorem m_signs (cs : List Nat) (hc : cs.length ≤ 900) (ds : List Int) (ce0 : List Cell) : ∃ ds' : List Int, f__law_signs [.cell 0, .im (.str (st cs))] (.lst (ds.map .int) :: ce0) = .ok (.im (.bl true)) (.lst (ds'.map .int) :: ce0) := by
  have kl : ∀ sl ce, kLen [.im (.str (st cs))] sl ce = .ok (.im (.int (cs.length : Nat))) ce := fun sl ce => by
    unfold kLen
    simp only [st_len, LINE, show cs.length ≤ 16777216 by omega, if_true]
  have ka : ∀ sl ce, kAdd (.im (.int (cs.length : Nat))) (.im (.int 1)) sl ce = .ok (.im (.int ((cs.length : Int) + 1))) ce := fun _ _ => rfl
  obtain ⟨r, d1, h0, h1, e1⟩ := m_drawc ds ((cs.length : Int) + 1) ce0 (by omega)
  obtain ⟨n, rfl⟩ : ∃ n : Nat, r = (n : Int) := ⟨r.toNat, by omega⟩
  obtain ⟨r2, d2, h2, h3, e2⟩ := m_drawc d1 94 ce0 (by decide)
  obtain ⟨c, hc2, mc⟩ := m_char r2 h2 h3
  obtain ⟨y3, y4, y5, y6, lp⟩ := signs_out (ce := .lst (d2.map .int) :: ce0) cs hc n (by omega) (some (.cell 0)) [32, 45, 95, c] none none none none
  have q1 : (" " : Str) = st [32] := by decide +kernel
  have q2 : ("-" : Str) = st [45] := by decide +kernel
  have q3 : ("_" : Str) = st [95] := by decide +kernel
  have tk := fun c => tk1 (ce0 := ce0) c
  simp only [List.map_cons, List.map_nil] at lp
  refine ⟨d2, ?_⟩
  unfold f__law_signs b__law_signs
  rw [q1, q2, q3]
  simp? only [-kLen, -kAdd, kl, ka, e1, e2, mc, lp, finD, tk]
theorem rep_open (n : Nat) (h : n ≤ 900) : kRepL (.im (.lst [.tup [.int 0, .non]])) (.im (.int (n : Nat))) sl ce = .ok (.im (jntsD (List.replicate n (0, none)))) ce := by
  unfold kRepL
  simp only
  rw [if_pos ⟨by decide, by omega, by omega⟩, Int.toNat_natCast]
  congr 3
  rw [List.map_replicate]
  simp [jntD, optD]
theorem bareL_ok {ks : List (List Nat)} (h : ∀ c ∈ ks, okK c) : ∀ l ∈ bareL ks, okL l := fun l hl => by
  obtain ⟨c, hc, rfl⟩ := List.mem_map.mp hl
  obtain ⟨a, b, d⟩ := h c hc
  exact ⟨a, b, d, by show (1 : Int) ≤ 1; decide⟩
theorem bareL_len (ks : List (List Nat)) : (bareL ks).length = ks.length := by unfold bareL; rw [List.length_map]
theorem lc_bare {own : List Nat} {fi : DI} {g : GD} {f : DE} (ks : List (List Nat)) (hi : fi sl ce = .ok (ks.map fun c => .str (st c)) ce) (hn : ks.length ≤ 900)
    (h : ∀ c ∈ ks, ∀ acc : List D, ∃ sl1, g (.str (st c)) (wipeD sl own) = some sl1 ∧ f sl1 (ce ++ [.lst acc]) = .ok (.im (layD (c, 1))) (ce ++ [.lst acc])) : eSettle (eLcC own fi g (eC (.bl true)) f) sl ce = .ok (.im (laysD (bareL ks))) ce := by
  have e := lc_map (own := own) (fi := fi) (g := g) (f := f) (sl := sl) (ce := ce) ks (fun c => .str (st c)) (fun c => layD (c, 1)) hi (by omega) h
  rw [e]
  unfold laysD bareL
  rw [List.map_map]
  rfl
theorem got_core (ks : List (List Nat)) (hk : ∀ c ∈ ks, okK c) (hn : ks.length ≤ 20) (m : Nat) (hm : m ≠ ks.length + 1) : gotD (coreE (bareL ks) (some (List.replicate m (0, none)))) = tagD "core" 0 := by
  unfold coreE
  rw [if_neg (by rw [bareL_len]; omega), badF_none.mpr fun l hl => okLb_iff.mpr (bareL_ok hk l hl)]
  simp only
  rw [if_neg (by rw [List.length_replicate, bareL_len]; exact hm)]
  rfl
theorem counts1 (ks : List (List Nat)) (hk : ∀ c ∈ ks, okK c) (hn : ks.length ≤ 20) (a0 a1 a4 a5 a6 : Option Val) : ∀ (ms : List Nat) (x3 : Option Val), (∀ m ∈ ms, m ≠ ks.length + 1 ∧ m ≤ 900) → ∃ y3, forD (gN 3) lp__law_counts_1 (ms.map fun (m : Nat) => D.int (m : Int)) [a0, a1, some (.im (laysD (bareL ks))), x3, a4, a5, a6] ce = .nx [a0, a1, some (.im (laysD (bareL ks))), y3, a4, a5, a6] ce
  | [], x3, h => ⟨x3, by rw [List.map_nil, forD]⟩
  | m :: ms, x3, h => by
    obtain ⟨h1, h2⟩ := h m (List.mem_cons_self ..)
    have rp := fun sl ce => rep_open (sl := sl) (ce := ce) m h2
    have mg := fun ce => m_got (ce := ce) (ls := bareL ks) (jo := some (List.replicate m (0, none))) (fun l hl => okL_len (bareL_ok hk l hl)) (by rw [bareL_len]; omega)
    rw [got_core ks hk hn m h1] at mg
    have nc : ∀ sl ce, kNe (.im (tagD "core" 0)) (.im (tagD "core" 0)) sl ce = .ok (.im (.bl false)) ce := fun sl ce => tag_refl _ w_core _ true
    obtain ⟨y3, ih⟩ := counts1 ks hk hn a0 a1 a4 a5 a6 ms (some (.im (.int (m : Nat)))) fun b hb => h b (List.mem_cons_of_mem _ hb)
    refine ⟨y3, ?_⟩
    have body : lp__law_counts_1 [a0, a1, some (.im (laysD (bareL ks))), some (.im (.int (m : Nat))), a4, a5, a6] ce = .nx [a0, a1, some (.im (laysD (bareL ks))), some (.im (.int (m : Nat))), a4, a5, a6] ce := by
      unfold lp__law_counts_1
      unfold tagD at mg nc
      simp only [joD] at mg
      simp? only [rp, mg, nc]
    rw [List.map_cons, forD]
    simp only [gN, List.set_cons_zero, List.set_cons_succ, body, ih]
theorem got_neg0 (lo : Int) (o : Option Int) (h : lo < 0) : gotD (coreE [] (some [(lo, o)])) = tagD "joint" 0 := by
  have e : okJb (lo, o) = false := by
    unfold okJb
    rw [decide_eq_false (by simp only; omega), Bool.false_and]
  unfold coreE
  simp only [List.length_nil, List.length_cons, badF, e, Nat.reduceLT, if_false, Nat.zero_add, if_true, Bool.false_eq_true]
  rfl
theorem got_neg3 (ks : List (List Nat)) (hk : ∀ c ∈ ks, okK c) (hn : ks.length = 3) (lo : Int) (o : Option Int) (h : lo < 0) : gotD (coreE (bareL ks) (some (List.replicate 3 (0, none) ++ [(lo, o)]))) = tagD "joint" 3 := by
  have e : okJb (lo, o) = false := by
    unfold okJb
    rw [decide_eq_false (by simp only; omega), Bool.false_and]
  have e0 : okJb (0, none) = true := rfl
  unfold coreE
  rw [if_neg (by rw [bareL_len]; omega), badF_none.mpr fun l hl => okLb_iff.mpr (bareL_ok hk l hl)]
  simp only
  rw [if_pos (by rw [bareL_len, hn]; rfl)]
  simp only [List.replicate_succ, List.replicate_zero, List.cons_append, List.nil_append, badF, e0, e, if_true, Bool.false_eq_true, if_false]
  rfl
theorem counts2 (ks : List (List Nat)) (hk : ∀ c ∈ ks, okK c) (hn : ks.length = 3) (lo : Int) (hlo : lo < 0) (a0 a1 a3 a4 a6 : Option Val) : ∀ (bs : List (Option Int)) (x5 : Option Val), ∃ y5, forD (gN 5) lp__law_counts_2 (bs.map fun o => jntD (lo, o)) [a0, a1, some (.im (laysD (bareL ks))), a3, a4, x5, a6] ce = .nx [a0, a1, some (.im (laysD (bareL ks))), a3, a4, y5, a6] ce
  | [], x5 => ⟨x5, by rw [List.map_nil, forD]⟩
  | o :: bs, x5 => by
    have rp := fun sl ce => rep_open (sl := sl) (ce := ce) 3 (by decide)
    have n3 : ((3 : Nat) : Int) = 3 := rfl
    rw [n3] at rp
    have m0 := fun ce => m_got (ce := ce) (ls := []) (jo := some [(lo, o)]) (fun l hl => by cases hl) (by simp)
    rw [got_neg0 lo o hlo] at m0
    have m3 := fun ce => m_got (ce := ce) (ls := bareL ks) (jo := some (List.replicate 3 (0, none) ++ [(lo, o)])) (fun l hl => okL_len (bareL_ok hk l hl)) (by rw [bareL_len]; omega)
    rw [got_neg3 ks hk hn lo o hlo] at m3
    have n1 : ∀ (i : Int) sl ce, kNe (.im (tagD "joint" i)) (.im (tagD "joint" i)) sl ce = .ok (.im (.bl false)) ce := fun i sl ce => tag_refl _ w_joint _ true
    have ad : ∀ sl ce, kAdd (.im (jntsD (List.replicate 3 (0, none)))) (.im (.lst [jntD (lo, o)])) sl ce = .ok (.im (jntsD (List.replicate 3 (0, none) ++ [(lo, o)]))) ce := fun _ _ => adJ (js2 := [(lo, o)]) (by simp)
    generalize hR : (List.replicate 3 (0, none) : List Jnt) = R at rp ad m3
    obtain ⟨y5, ih⟩ := counts2 ks hk hn lo hlo a0 a1 a3 a4 a6 bs (some (.im (jntD (lo, o))))
    refine ⟨y5, ?_⟩
    have body : lp__law_counts_2 [a0, a1, some (.im (laysD (bareL ks))), a3, a4, some (.im (jntD (lo, o))), a6] ce = .nx [a0, a1, some (.im (laysD (bareL ks))), a3, a4, some (.im (jntD (lo, o))), a6] ce := by
      have m0' : ∀ ce, f__law_got [.im (.lst []), .im (.lst [jntD (lo, o)])] ce = .ok (.im (tagD "joint" 0)) ce := m0
      unfold lp__law_counts_2
      unfold tagD at m0' m3 n1
      simp only [joD] at m3
      simp? only [-kAdd, rp, ad, m0', m3, n1]
    rw [List.map_cons, forD]
    simp only [gN, List.set_cons_zero, List.set_cons_succ, body, ih]
theorem m_counts (ks : List (List Nat)) (hk : ∀ c ∈ ks, okK c) (hn : ks.length = 3) (ds : List Int) (ce0 : List Cell) : ∃ ds' : List Int, f__law_counts [.cell 0, .im (.lst (ks.map fun c => .str (st c)))] (.lst (ds.map .int) :: ce0) = .ok (.im (.bl true)) (.lst (ds'.map .int) :: ce0) := by
  have lc := fun ce => lc_bare (own := [6]) (fi := iExp (eV 1) itL) (g := gN 6) (f := el__law_counts_0) (sl := [some (.cell 0), some (.im (.lst (ks.map fun c => .str (st c)))), none, none, none, none, none]) (ce := ce) ks (by simp? only []) (by omega) (fun c hc acc => ⟨_, rfl, by
    unfold el__law_counts_0 layD
    simp? only [wipeD]⟩)
  obtain ⟨n, d1, hlt, e1⟩ := m_numc ds ce0
  obtain ⟨m, d2, hlt2, e2⟩ := m_numc d1 ce0
  obtain ⟨y3, c1⟩ := counts1 (ce := .lst (ds.map .int) :: ce0) ks hk (by omega) (some (.cell 0)) (some (.im (.lst (ks.map fun c => .str (st c))))) none none none [0, 1, 2, 3, 5, 6, 24] none (fun m hm => by
    simp only [List.mem_cons, List.not_mem_nil, or_false] at hm
    omega)
  obtain ⟨lo, hlo⟩ : ∃ lo : Int, lo = -1 - (n : Int) := ⟨_, rfl⟩
  obtain ⟨y5, c2⟩ := counts2 (ce := .lst (d2.map .int) :: ce0) ks hk hn lo (by omega) (some (.cell 0)) (some (.im (.lst (ks.map fun c => .str (st c))))) y3 (some (.im (.int lo))) none [some (m : Int), some 0, some (-lo)] none
  have ng : ∀ (i : Int) sl ce, kNeg (.im (.int i)) sl ce = .ok (.im (.int (-i))) ce := fun _ _ _ => rfl
  have sb : ∀ sl ce, kSub (.im (.int (-1))) (.im (.int (n : Nat))) sl ce = .ok (.im (.int lo)) ce := fun sl ce => by rw [hlo]; rfl
  have tk := fun c => tk1 (ce0 := ce0) c
  have zi : ((0 : Nat) : Int) = 0 ∧ ((1 : Nat) : Int) = 1 ∧ ((2 : Nat) : Int) = 2 ∧ ((3 : Nat) : Int) = 3 ∧ ((5 : Nat) : Int) = 5 ∧ ((6 : Nat) : Int) = 6 ∧ ((24 : Nat) : Int) = 24 := ⟨rfl, rfl, rfl, rfl, rfl, rfl, rfl⟩
  obtain ⟨z0, z1, z2, z3, z5, z6, z24⟩ := zi
  simp only [List.map_cons, List.map_nil, z0, z1, z2, z3, z5, z6, z24] at c1
  simp only [List.map_cons, List.map_nil, jntD, optD] at c2
  generalize hG : eSettle (eLcC [6] (iExp (eV 1) itL) (gN 6) (eC (.bl true)) el__law_counts_0) = G at lc
  refine ⟨d2, ?_⟩
  unfold f__law_counts b__law_counts
  rw [hG]
  simp? only [-kSub, lc, c1, e1, ng, sb, e2, c2, finD, tk]
end
end ZZ
set_option Elab.async false
set_option linter.all false
set_option maxRecDepth 100000
set_option maxHeartbeats 4000000
namespace ZZ
open PySem PySem.Spec L2
section
variable {sl : Sl} {ce : List Cell} {ls ls2 : List Lay} {js js2 : List Jnt} {l : Lay} {j : Jnt} {jo : Option (List Jnt)} {ce0 : List Cell}
theorem okc_bare {ks : List (List Nat)} (hk : ∀ c ∈ ks, okK c) (hn : ks.length ≤ 20) : OkC (bareL ks) (openJ ks.length) := ⟨bareL_ok hk, fun j hj => by
  rw [List.eq_of_mem_replicate hj]
  exact ⟨by show (0 : Int) ≤ 0; decide, fun m z => by cases z⟩, by rw [bareL_len]; exact hn, by rw [bareL_len]; simp [openJ]⟩
theorem bare_made {ks : List (List Nat)} (hk : ∀ c ∈ ks, okK c) (hn : ks.length ≤ 20) : coreE (bareL ks) none = none := coreE_of (by rw [bareL_len]; exact hn) (bareL_ok hk) fun js z => by cases z
theorem bare_ok {ks : List (List Nat)} (hk : ∀ c ∈ ks, okK c) (hn : ks.length ≤ 20) : f_bare_core (ks.map fun c => .im (.str (st c))) ce = .ok (.im (coreD (bareL ks) (openJ ks.length))) ce := by
  rw [m_bare ks (fun c hc => by have := (hk c hc).2.1; omega) (by omega), bare_made hk hn]
theorem okK3 {a b c : List Nat} (ha : okK a) (hb : okK b) (hc : okK c) {ks : List (List Nat)} (h : ∀ k ∈ ks, k = a ∨ k = b ∨ k = c) : ∀ k ∈ ks, okK k := fun k hk => by
  rcases h k hk with rfl | rfl | rfl
  · exact ha
  · exact hb
  · exact hc
theorem same_bare {ks : List (List Nat)} (hk : ∀ c ∈ ks, okK c) (hn : ks.length ≤ 20) : f__law_same [.im (coreD (bareL ks) (openJ ks.length)), .im (laysD (bareL ks)), .im (jntsD (openJ ks.length))] ce = .ok (.im (.bl true)) ce := m_same (okc_bare hk hn)
theorem m_many {a b c : List Nat} (ha : okK a) (hb : okK b) (hc : okK c) : f__law_many [.im (.lst [.str (st a), .str (st b), .str (st c)])] ce = .ok (.im (.bl true)) ce := by
  have h1 : ∀ k ∈ [c], okK k := okK3 ha hb hc fun k hk => by simp at hk; simp [hk]
  have h7 : ∀ k ∈ [a, b, c, c, a, b, b], okK k := okK3 ha hb hc fun k hk => by
    simp only [List.mem_cons, List.not_mem_nil, or_false] at hk
    rcases hk with rfl | rfl | rfl | rfl | rfl | rfl | rfl <;> simp
  obtain ⟨k20, hk20⟩ : ∃ k20, k20 = [a, b, a, b, a, b, a, b, a, b, a, b, a, b, a, b, a, b, a, b] := ⟨_, rfl⟩
  have l20 : k20.length = 20 := by rw [hk20]; rfl
  have m20 : ∀ k ∈ k20, k = a ∨ k = b ∨ k = c := fun k hk => by
    have e : k20 = (List.replicate 10 [a, b]).flatten := hk20
    rw [e, List.mem_flatten] at hk
    obtain ⟨l, hl, hk⟩ := hk
    rw [List.eq_of_mem_replicate hl] at hk
    simp only [List.mem_cons, List.not_mem_nil, or_false] at hk
    rcases hk with rfl | rfl
    · exact .inl rfl
    · exact .inr (.inl rfl)
  have h20 : ∀ k ∈ k20, okK k := okK3 ha hb hc m20
  have f1 := fun ce => bare_ok (ce := ce) h1 (by simp)
  have f7 := fun ce => bare_ok (ce := ce) h7 (by simp)
  have f20 := fun ce => bare_ok (ce := ce) h20 (by omega)
  have s1 := fun ce => same_bare (ce := ce) h1 (by simp)
  have s7 := fun ce => same_bare (ce := ce) h7 (by simp)
  have s20 := fun ce => same_bare (ce := ce) h20 (by omega)
  have r2 := fun sl ce => rep_open (sl := sl) (ce := ce) 2 (by decide)
  have r8 := fun sl ce => rep_open (sl := sl) (ce := ce) 8 (by decide)
  have r21 := fun sl ce => rep_open (sl := sl) (ce := ce) 21 (by decide)
  have n2 : ((2 : Nat) : Int) = 2 ∧ ((8 : Nat) : Int) = 8 ∧ ((21 : Nat) : Int) = 21 := ⟨rfl, rfl, rfl⟩
  obtain ⟨n2, n8, n21⟩ := n2
  rw [n2] at r2
  rw [n8] at r8
  rw [n21] at r21
  have o1 : openJ [c].length = List.replicate 2 (0, none) := rfl
  have o7 : openJ [a, b, c, c, a, b, b].length = List.replicate 8 (0, none) := rfl
  have o20 : openJ k20.length = List.replicate 21 (0, none) := by rw [l20]; rfl
  rw [o1] at f1 s1
  rw [o7] at f7 s7
  rw [o20] at f20 s20
  generalize (List.replicate 2 (0, none) : List Jnt) = R2 at f1 s1 r2
  generalize (List.replicate 8 (0, none) : List Jnt) = R8 at f7 s7 r8
  generalize (List.replicate 21 (0, none) : List Jnt) = R21 at f20 s20 r21
  have lc7 := fun x4 x5 ce => lc_bare (own := [7]) (fi := iExp (eArgs [(eV 1), (eV 2), (eV 3), (eV 3), (eV 1), (eV 2), (eV 2)] kLst) itL) (g := gN 7) (f := el__law_many_0) (sl := [some (.im (.lst [.str (st a), .str (st b), .str (st c)])), some (.im (.str (st a))), some (.im (.str (st b))), some (.im (.str (st c))), x4, x5, none, none]) (ce := ce) [a, b, c, c, a, b, b] (by simp? only []) (by simp) (fun c hc acc => ⟨_, rfl, by
    unfold el__law_many_0 layD
    simp? only [wipeD]⟩)
  have rp : ∀ sl ce, kRepL (.im (.lst [.str (st a), .str (st b)])) (.im (.int 10)) sl ce = .ok (.im (.lst (k20.map fun c => .str (st c)))) ce := fun sl ce => by
    rw [hk20]
    unfold kRepL
    simp only
    rw [if_pos ⟨by show 2 ≤ 1000; decide, by decide, by decide⟩]
    rfl
  have lc20 := fun x4 x5 ce => lc_bare (own := [7]) (fi := iExp (eBin kRepL (eArgs [(eV 1), (eV 2)] kLst) (eC (.int 10))) itL) (g := gN 7) (f := el__law_many_1) (sl := [some (.im (.lst [.str (st a), .str (st b), .str (st c)])), some (.im (.str (st a))), some (.im (.str (st b))), some (.im (.str (st c))), x4, x5, none, none]) (ce := ce) k20 (by simp? only [rp]) (by omega) (fun c hc acc => ⟨_, rfl, by
    unfold el__law_many_1 layD
    simp? only [wipeD]⟩)
  generalize hG7 : eSettle (eLcC [7] (iExp (eArgs [(eV 1), (eV 2), (eV 3), (eV 3), (eV 1), (eV 2), (eV 2)] kLst) itL) (gN 7) (eC (.bl true)) el__law_many_0) = G7 at lc7
  generalize hG20 : eSettle (eLcC [7] (iExp (eBin kRepL (eArgs [(eV 1), (eV 2)] kLst) (eC (.int 10))) itL) (gN 7) (eC (.bl true)) el__law_many_1) = G20 at lc20
  have x21 : ∀ ce, f_bare_core ((k20 ++ [c]).map fun c => .im (.str (st c))) ce = .exc e_BadCore [] ce := fun ce => by
    have h21 : ∀ k ∈ k20 ++ [c], okK k := okK3 ha hb hc fun k hk => (List.mem_append.mp hk).elim (m20 k) fun z => .inr (.inr (List.mem_singleton.mp z))
    have ln : (bareL (k20 ++ [c])).length = 21 := by rw [bareL_len, List.length_append, l20]; rfl
    rw [m_bare _ (fun c hc => by have := (h21 c hc).2.1; omega) (by rw [List.length_append, l20]; simp)]
    unfold coreE
    rw [if_pos (by omega)]
  have e1 : D.lst [.tup [.str (st c), .int 1]] = laysD (bareL [c]) := rfl
  have s1' : ∀ ce, f__law_same [.im (coreD (bareL [c]) R2), .im (.lst [.tup [.str (st c), .int 1]]), .im (jntsD R2)] ce = .ok (.im (.bl true)) ce := fun ce => by rw [e1]; exact s1 ce
  rw [hk20] at f20 x21
  simp only [List.cons_append, List.nil_append] at x21
  simp only [List.map_cons, List.map_nil] at f1 f7 f20 x21
  rw [← hk20] at f20
  have i0 : ∀ sl ce, kIx (.im (.lst [.str (st a), .str (st b), .str (st c)])) (.im (.int 0)) sl ce = .ok (.im (.str (st a))) ce := fun _ _ => rfl
  have i1 : ∀ sl ce, kIx (.im (.lst [.str (st a), .str (st b), .str (st c)])) (.im (.int 1)) sl ce = .ok (.im (.str (st b))) ce := fun _ _ => rfl
  have i2 : ∀ sl ce, kIx (.im (.lst [.str (st a), .str (st b), .str (st c)])) (.im (.int 2)) sl ce = .ok (.im (.str (st c))) ce := fun _ _ => rfl
  have r0 : e_BadCore < 5 := by decide
  have x0 : x_BadCore e_BadCore = true := by decide
  have k1 : ∀ sl ce, kIsE (fun c => some (x_BadLayer c)) (.exn e_BadCore []) sl ce = .ok (.im (.bl false)) ce := fun _ _ => rfl
  have k2 : ∀ sl ce, kIsE (fun c => some (x_BadJoint c)) (.exn e_BadCore []) sl ce = .ok (.im (.bl false)) ce := fun _ _ => rfl
  unfold f__law_many b__law_many sTry
  rw [hG7, hG20]
  simp? only [-kRepL, i0, i1, i2, f1, r2, s1', lc7, f7, r8, s7, lc20, f20, r21, s20, x21, r0, x0, k1, k2, offD, finD, List.take_length]
end
end ZZ
set_option Elab.async false
set_option linter.all false
set_option maxRecDepth 100000
set_option maxHeartbeats 4000000
namespace ZZ
open PySem PySem.Spec L2
section
variable {sl : Sl} {ce : List Cell} {ls ls2 : List Lay} {js js2 : List Jnt}
theorem hot_isjoint : fh_is_joint [.im (.tup [.int 0, .non])] ce = .ok (.im (.bl true)) ce := by
  have nn : ∀ sl ce, kIsN false (.im .non) (.im .non) sl ce = .ok (.im (.bl true)) ce := fun _ _ => rfl
  have ge : ∀ sl ce, kGe (.im (.int 0)) (.im (.int 0)) sl ce = .ok (.im (.bl true)) ce := fun _ _ => rfl
  unfold fh_is_joint noX bh_is_joint
  simp? only [-kCmp, sAsg, ge, nn, finD, List.take_length]
theorem hot_init : fh_Core___init__ [.cell ce.length, .im (.lst []), .im .non] (ce ++ [.ins c_Core []]) = .ok (.im .non) (ce ++ [.ins c_Core [.lst [], .lst [.tup [.int 0, .non]]]]) := by
  have nn : ∀ sl ce, kIsNC false (.im .non) (.im .non) sl ce = .ok (.im (.bl true)) ce := fun _ _ => rfl
  have tk : ∀ (l : List Cell) (k : Nat), (ce ++ l).take (ce.length + k) = ce ++ l.take k := fun l k => List.take_length_add_append k
  have gt : ∀ sl ce, kGt (.im (.int 0)) (.im (.int 20)) sl ce = .ok (.im (.bl false)) ce := fun _ _ => rfl
  have l0 : ∀ sl ce, kLen [.im (.lst [])] sl ce = .ok (.im (.int 0)) ce := fun _ _ => rfl
  have l1 : ∀ sl ce, kLen [.im (.lst [.tup [.int 0, .non]])] sl ce = .ok (.im (.int 1)) ce := fun _ _ => rfl
  have k0 : kEnum [.im (.lst [])] = some [] := rfl
  have k1 : kEnum [.im (.lst [.tup [.int 0, .non]])] = some [.tup [.int 0, .tup [.int 0, .non]]] := rfl
  have ad : ∀ sl ce, kAdd (.im (.int 0)) (.im (.int 1)) sl ce = .ok (.im (.int 1)) ce := fun _ _ => rfl
  have rp : ∀ sl ce, kRepL (.im (.lst [.tup [.int 0, .non]])) (.im (.int 1)) sl ce = .ok (.im (.lst [.tup [.int 0, .non]])) ce := fun _ _ => rfl
  have ne : ∀ sl ce, kNe (.im (.int 1)) (.im (.int 1)) sl ce = .ok (.im (.bl false)) ce := fun sl ce => by
    show kEqG true _ _ sl ce = _
    rw [eq_int]
    rfl
  have li0 : ∀ sl ce, kListI [.im (.lst [])] sl ce = .ok (.im (.lst [])) ce := fun _ _ => rfl
  have li1 : ∀ sl ce, kListI [.im (.lst [.tup [.int 0, .non]])] sl ce = .ok (.im (.lst [.tup [.int 0, .non]])) ce := fun _ _ => rfl
  have ij := fun ce => hot_isjoint (ce := ce)
  unfold fh_Core___init__ noX bh_Core___init__ lph_Core___init___1
  simp? only [-kLen, -kCmp, -kAdd, -kRepL, l0, l1, gt, k0, k1, forD, nn, ad, rp, ne, ij, li0, li1, sFldSet, List.length_append, finD, tk, Nat.lt_irrefl, Nat.reduceLT, List.take_succ_cons, List.take_zero]
theorem hot_bare : kCallH0 fh_bare_core sl ce = .ok (.im (coreD [] [(0, none)])) ce := by
  have e := fun ce => hot_init (ce := ce)
  have mk : ∀ sl ce, kMakeN c_Core 2 fh_Core___init__ [.im (.lst [])] sl ce = .ok (.im (coreD [] [(0, none)])) ce := fun sl ce => by
    unfold kMakeN kMake
    simp only [List.cons_append, List.nil_append, List.all_cons, List.all_nil, plainV, Bool.and_self, if_true, e]
    simp [coreD, laysD, jntsD, jntD, optD]
  unfold kCallH0 fh_bare_core noX bh_bare_core eLcE
  simp? only [mk, finD, List.take_length]
theorem hot_joint : fh_Core_joint [.im (coreD [] [(0, none)]), .im (.int 0)] ce = .ok (.im (.tup [.int 0, .non])) ce := by
  have f1 := fun sl ce => cfld1 (sl := sl) (ce := ce) (ls := []) (js := [(0, none)])
  have l1 : ∀ sl ce, kLen [.im (jntsD [(0, none)])] sl ce = .ok (.im (.int 1)) ce := fun _ _ => rfl
  have le : ∀ sl ce, kLe (.im (.int 0)) (.im (.int 0)) sl ce = .ok (.im (.bl true)) ce := fun _ _ => rfl
  have lt : ∀ sl ce, kLt (.im (.int 0)) (.im (.int 1)) sl ce = .ok (.im (.bl true)) ce := fun _ _ => rfl
  have ix : ∀ sl ce, kIx (.im (jntsD [(0, none)])) (.im (.int 0)) sl ce = .ok (.im (.tup [.int 0, .non])) ce := fun _ _ => rfl
  unfold fh_Core_joint noX bh_Core_joint
  simp? only [-kLen, -kCmp, eChain, f1, l1, le, lt, ix, finD, List.take_length]
theorem hot_thick : kProp c_Core fh_Core_thickness (.im (coreD [] [(0, none)])) sl ce = .ok (.im (.int 0)) ce := by
  have f0 := fun sl ce => cfld0 (sl := sl) (ce := ce) (ls := []) (js := [(0, none)])
  have e : fh_Core_thickness [.im (coreD [] [(0, none)])] ce = .ok (.im (.int 0)) ce := by
    have sm : ∀ sl ce, kSum [.im (.lst [])] sl ce = .ok (.im (.int 0)) ce := fun _ _ => rfl
    have il : itL (.im (laysD [])) = some [] := rfl
    unfold fh_Core_thickness noX bh_Core_thickness eLcE
    simp? only [-itL, f0, il, sm, finD, List.take_length]
  unfold kProp
  simp only [isC_c, e, if_true]
theorem hot_whole (i : Int) : fh__law_whole [.im (.int i)] ce = .ok (.im (.bl true)) ce := by
  have k1 : ∀ sl ce, kIsi i_int (.im (.int i)) sl ce = .ok (.im (.bl true)) ce := fun _ _ => rfl
  have k2 : ∀ sl ce, kIsi i_bool (.im (.int i)) sl ce = .ok (.im (.bl false)) ce := fun _ _ => rfl
  unfold fh__law_whole noX bh__law_whole
  simp? only [k1, k2, finD, List.take_length]
theorem hot_len : kLenO c_Core fh_Core___len__ (.im (coreD [] [(0, none)])) sl ce = .ok (.im (.int 0)) ce := by
  have f0 := fun sl ce => cfld0 (sl := sl) (ce := ce) (ls := []) (js := [(0, none)])
  have l0 : ∀ sl ce, kLen [.im (laysD [])] sl ce = .ok (.im (.int 0)) ce := fun _ _ => rfl
  have e : fh_Core___len__ [.im (coreD [] [(0, none)])] ce = .ok (.im (.int 0)) ce := by
    unfold fh_Core___len__ noX bh_Core___len__
    simp? only [-kLen, f0, l0, finD, List.take_length]
  unfold kLenO
  simp only [isC_c, e, if_true]
  rfl
theorem hot_same : fh__law_same [.im (coreD [] [(0, none)]), .im (.lst []), .im (.lst [.tup [.int 0, .non]])] ce = .ok (.im (.bl true)) ce := by
  have kc : ∀ sl ce, kIsi i_Core (.im (coreD [] [(0, none)])) sl ce = .ok (.im (.bl true)) ce := fun _ _ => rfl
  have kt : ∀ sl ce, kIsi i_tuple (.im (.tup [.int 0, .non])) sl ce = .ok (.im (.bl true)) ce := fun _ _ => rfl
  have hl := fun sl ce => hot_len (sl := sl) (ce := ce)
  have l0 : ∀ sl ce, kLen [.im (.lst [])] sl ce = .ok (.im (.int 0)) ce := fun _ _ => rfl
  have l1 : ∀ sl ce, kLen [.im (.lst [.tup [.int 0, .non]])] sl ce = .ok (.im (.int 1)) ce := fun _ _ => rfl
  have n0 : ∀ sl ce, kNe (.im (.int 0)) (.im (.int 0)) sl ce = .ok (.im (.bl false)) ce := fun sl ce => by
    show kEqG true _ _ sl ce = _
    rw [eq_int]
    rfl
  have q0 : ∀ sl ce, kEq (.im (.int 0)) (.im (.int 0)) sl ce = .ok (.im (.bl true)) ce := fun sl ce => by
    show kEqG false _ _ sl ce = _
    rw [eq_int]
    rfl
  have nl : ∀ sl ce, kNe (.im (.lst [])) (.im (.lst [])) sl ce = .ok (.im (.bl false)) ce := fun sl ce => lays_refl (ls := []) (fun l hl => by cases hl) true
  have nt : ∀ sl ce, kNe (.im (.tup [.int 0, .non])) (.im (.tup [.int 0, .non])) sl ce = .ok (.im (.bl false)) ce := fun sl ce => jnt_refl (j := (0, none)) true
  have io : itO c_Core 0 (.im (coreD [] [(0, none)])) = some [] := rfl
  have r0 : kRng1 [.im (.int 0)] = some [] := rfl
  have r1 : kRng1 [.im (.int 1)] = some [.int 0] := rfl
  have hj := fun ce => hot_joint (ce := ce)
  have ix : ∀ sl ce, kIx (.im (.lst [.tup [.int 0, .non]])) (.im (.int 0)) sl ce = .ok (.im (.tup [.int 0, .non])) ce := fun _ _ => rfl
  have i0 : ∀ sl ce, kIx (.im (.tup [.int 0, .non])) (.im (.int 0)) sl ce = .ok (.im (.int 0)) ce := fun _ _ => rfl
  have i1 : ∀ sl ce, kIx (.im (.tup [.int 0, .non])) (.im (.int 1)) sl ce = .ok (.im .non) ce := fun _ _ => rfl
  have hw := fun ce => hot_whole (ce := ce) 0
  have nn : ∀ sl ce, kIsN true (.im .non) (.im .non) sl ce = .ok (.im (.bl false)) ce := fun _ _ => rfl
  have ht := fun sl ce => hot_thick (sl := sl) (ce := ce)
  unfold fh__law_same noX bh__law_same lph__law_same_1 eLcE
  simp? only [-kLen, kc, kt, hl, l0, l1, n0, q0, nl, nt, io, r0, r1, forD, isC_c, kMeth, hj, ix, i0, i1, hw, nn, ht, finD, List.take_length]
end
end ZZ
set_option Elab.async false
set_option linter.all false
set_option maxRecDepth 100000
set_option maxHeartbeats 4000000
namespace ZZ
open PySem PySem.Spec L2
section
variable {sl : Sl} {ce : List Cell} {ls ls2 : List Lay} {js js2 : List Jnt} {l : Lay} {j : Jnt} {jo : Option (List Jnt)} {ce0 : List Cell}
theorem bc_bare {ks : List (List Nat)} (hk : ∀ c ∈ ks, okK c) (hn : ks.length ≤ 20) : BC (bareL ks) (openJ ks.length) := by
  have p := p61
  refine ⟨okc_bare hk hn, fun l hl => ⟨bareL_ok hk l hl, ?_⟩, fun j hj => ⟨(okc_bare hk hn).j j hj, ?_, fun m z => ?_⟩⟩
  · obtain ⟨c, hc, rfl⟩ := List.mem_map.mp hl
    rw [p]
    show (1 : Nat) < _
    omega
  · rw [List.eq_of_mem_replicate hj, p]
    show (0 : Nat) < _
    omega
  · rw [List.eq_of_mem_replicate hj] at z
    cases z
theorem m_open {a b c : List Nat} (ha : okK a) (hb : okK b) (hc : okK c) : f__law_open [.im (.lst [.str (st a), .str (st b), .str (st c)])] ce = .ok (.im (.bl true)) ce := by
  have h1 : ∀ k ∈ [c], okK k := okK3 ha hb hc fun k hk => by simp at hk; simp [hk]
  have h0 : ∀ k ∈ ([] : List (List Nat)), okK k := fun k hk => by cases hk
  have h2 : ∀ k ∈ [a, b], okK k := okK3 ha hb hc fun k hk => by
    simp only [List.mem_cons, List.not_mem_nil, or_false] at hk
    rcases hk with rfl | rfl <;> simp
  have h2r : ∀ k ∈ [b, a], okK k := okK3 ha hb hc fun k hk => by
    simp only [List.mem_cons, List.not_mem_nil, or_false] at hk
    rcases hk with rfl | rfl <;> simp
  have h3 : ∀ k ∈ [a, b, c], okK k := okK3 ha hb hc fun k hk => by
    simp only [List.mem_cons, List.not_mem_nil, or_false] at hk
    exact hk
  obtain ⟨L2, hL2⟩ : ∃ L, L = bareL [a, b] := ⟨_, rfl⟩
  obtain ⟨L2r, hL2r⟩ : ∃ L, L = bareL [b, a] := ⟨_, rfl⟩
  obtain ⟨L3, hL3⟩ : ∃ L, L = bareL [a, b, c] := ⟨_, rfl⟩
  obtain ⟨L1, hL1⟩ : ∃ L, L = bareL [c] := ⟨_, rfl⟩
  obtain ⟨J1, hJ1⟩ : ∃ J : List Jnt, J = openJ 0 := ⟨_, rfl⟩
  obtain ⟨J2, hJ2⟩ : ∃ J : List Jnt, J = openJ 1 := ⟨_, rfl⟩
  obtain ⟨J3, hJ3⟩ : ∃ J : List Jnt, J = openJ 2 := ⟨_, rfl⟩
  obtain ⟨J4, hJ4⟩ : ∃ J : List Jnt, J = openJ 3 := ⟨_, rfl⟩
  have o2 : OkC L2 J3 := by rw [hL2, hJ3]; exact okc_bare h2 (by simp)
  have o2r : OkC L2r J3 := by rw [hL2r, hJ3]; exact okc_bare h2r (by simp)
  have o3 : OkC L3 J4 := by rw [hL3, hJ4]; exact okc_bare h3 (by simp)
  have o1 : OkC L1 J2 := by rw [hL1, hJ2]; exact okc_bare h1 (by simp)
  have o0 : OkC [] J1 := by rw [hJ1]; exact okc_bare h0 (by simp)
  have f2 : ∀ ce, f_bare_core [.im (.str (st a)), .im (.str (st b))] ce = .ok (.im (coreD L2 J3)) ce := fun ce => by rw [hL2, hJ3]; exact bare_ok h2 (by simp)
  have mk2 := fun sl ce => m_cmake (sl := sl) (ce := ce) o2
  have eq2 := fun sl ce => m_ceq (sl := sl) (ce := ce) o2
  have bcw : BC L2 J3 := by rw [hL2, hJ3]; exact bc_bare h2 (by simp)
  have mw := fun ce => m_cwritten (ce := ce) bcw
  have ok := (text_fi bcw).ok
  have qt : ∀ sl ce, kNe (.im (.str (textC L2 J3))) (.im (.str (textC L2 J3))) sl ce = .ok (.im (.bl false)) ce := fun sl ce => by
    show kEqG true _ _ sl ce = _
    rw [eq_str ok ok]
    simp
  have r3 : ∀ sl ce, kRepL (.im (.lst [.tup [.int 0, .non]])) (.im (.int 3)) sl ce = .ok (.im (jntsD J3)) ce := fun sl ce => by rw [hJ3]; exact rep_open 3 (by decide)
  have r4 : ∀ sl ce, kRepL (.im (.lst [.tup [.int 0, .non]])) (.im (.int 4)) sl ce = .ok (.im (jntsD J4)) ce := fun sl ce => by rw [hJ4]; exact rep_open 4 (by decide)
  have c1 : ∀ sl ce, kSlL (.im (laysD L3)) none (some 2) sl ce = .ok (.im (laysD L2)) ce := fun sl ce => by rw [slLy, hL3, hL2]; rfl
  have c2 : ∀ sl ce, kSlL (.im (laysD L3)) (some 2) none sl ce = .ok (.im (laysD L1)) ce := fun sl ce => by rw [slLy, hL3, hL1]; rfl
  have mN1 : ∀ sl ce, kMakeN c_Core 2 f_Core___init__ [.im (laysD L1)] sl ce = .ok (.im (coreD L1 J2)) ce := fun sl ce => by
    have e := k_makeN (sl := sl) (ce := ce) (ls := L1) (V1 := .im (laysD L1)) rfl (fun l hl => okL_len (o1.l l hl)) (by have := o1.n; omega) rfl
    rw [hL1, bare_made h1 (by simp)] at e
    rw [hL1, hJ2]
    exact e
  have mN0 : ∀ sl ce, kMakeN c_Core 2 f_Core___init__ [.im (.lst [])] sl ce = .ok (.im (coreD [] J1)) ce := fun sl ce => by
    have e := k_makeN (sl := sl) (ce := ce) (ls := []) (V1 := .im (.lst [])) rfl (fun l hl => by cases hl) (by simp) rfl
    rw [coreE_of (by simp) (fun l hl => by cases hl) fun js z => by cases z] at e
    rw [hJ1]
    exact e
  have t1 : Two L2 L1 J3 J2 (0, none) (0, none) := ⟨o2, o1, by rw [hJ3]; rfl, by rw [hJ2]; rfl⟩
  have t0 : Two [] L2 J1 J3 (0, none) (0, none) := ⟨o0, o2, by rw [hJ1]; rfl, by rw [hJ3]; rfl⟩
  have ad1 : ∀ sl ce, kOwn c_Core f_Core___add__ (.im (coreD L2 J3)) (.im (coreD L1 J2)) sl ce = .ok (.im (coreD L3 J4)) ce := fun sl ce => by
    rw [own_cc, m_cadd t1 (by rw [hL2, hL1, bareL_len, bareL_len]; simp)]
    have e1 : L2 ++ L1 = L3 := by rw [hL1, hL2, hL3]; rfl
    have e2 : sumJ J3 J2 (0, none) (0, none) = J4 := by rw [hJ3, hJ2, hJ4]; rfl
    rw [e1, e2]
  have ad0 : ∀ sl ce, kOwn c_Core f_Core___add__ (.im (coreD [] J1)) (.im (coreD L2 J3)) sl ce = .ok (.im (coreD L2 J3)) ce := fun sl ce => by
    rw [own_cc, m_cadd t0 (by rw [hL2, bareL_len]; simp)]
    have e2 : sumJ J1 J3 (0, none) (0, none) = J3 := by rw [hJ3, hJ1]; rfl
    rw [e2, List.nil_append]
  have s3 := fun ce => m_same (ce := ce) o3
  have s2 := fun ce => m_same (ce := ce) o2
  have s2r := fun ce => m_same (ce := ce) o2r
  have rv : ∀ sl ce, kRevV (.im (laysD L2)) sl ce = .ok (.im (laysD L2r)) ce := fun sl ce => by rw [rvL, hL2, hL2r]; rfl
  have iv : ∀ sl ce, kOwn1 c_Core f_Core___invert__ (.im (coreD L2 J3)) sl ce = .ok (.im (coreD L2r J3)) ce := fun sl ce => by
    rw [m_cinv o2]
    have e1 : L2.reverse = L2r := by rw [hL2, hL2r]; rfl
    have e2 : J3.reverse = J3 := by rw [hJ3]; rfl
    rw [e1, e2]
  have tn : ∀ ce, f_Core_turned [.im (coreD L2 J3), .im (.int 0), .im (.int 2)] ce = .ok (.im (coreD L2r J3)) ce := fun ce => by
    have e := m_turned (ce := ce) o2 (a := 0) (b := 2) (by decide) (by rw [hL2, bareL_len]; simp)
    have e1 : ZZ.tl 0 2 L2 = L2r := by rw [hL2, hL2r]; rfl
    have e2 : tj 0 2 J3 = J3 := by rw [hJ3]; rfl
    rw [e1, e2] at e
    exact e
  obtain ⟨JN, hJN⟩ : ∃ J : List Jnt, J = J3.set 1 (1, some 4) := ⟨_, rfl⟩
  have nr : ∀ ce, f_Core_narrowed [.im (coreD L2 J3), .im (.int 1), .im (.int 1), .im (.int 4)] ce = .ok (.im (coreD L2 JN)) ce := fun ce => by
    have e := m_narrowed (ce := ce) o2 (k := 1) (j := (0, none)) (by rw [hJ3]; rfl) 1 (some 4)
    have e1 : narrow (0, none) 1 (some 4) = some (1, some 4) := by decide
    rw [e1] at e
    rw [hJN]
    exact e
  have oN : OkC L2 JN := by
    rw [hJN]
    exact okC_set o2 ⟨by show (0 : Int) ≤ 1; decide, fun m z => by cases z; show (1 : Int) ≤ 4; decide⟩
  have sN : ∀ ce, f__law_same [.im (coreD L2 JN), .im (laysD L2), .im (.lst [.tup [.int 0, .non], .tup [.int 1, .int 4], .tup [.int 0, .non]])] ce = .ok (.im (.bl true)) ce := fun ce => by
    have e : D.lst [.tup [.int 0, .non], .tup [.int 1, .int 4], .tup [.int 0, .non]] = jntsD JN := by rw [hJN, hJ3]; rfl
    rw [e]
    exact m_same oN
  have lc : ∀ x1 x2 x3 x4 ce, eSettle (eLcC [5] (iExp (eV 0) itL) (gN 5) (eC (.bl true)) el__law_open_0) [some (.im (.lst [.str (st a), .str (st b), .str (st c)])), x1, x2, x3, x4, none] ce = .ok (.im (laysD L3)) ce := fun x1 x2 x3 x4 ce => by
    rw [hL3]
    exact lc_bare (own := [5]) (fi := iExp (eV 0) itL) (g := gN 5) (f := el__law_open_0) (sl := [some (.im (.lst [.str (st a), .str (st b), .str (st c)])), x1, x2, x3, x4, none]) (ce := ce) [a, b, c] (by simp? only []) (by simp) (fun c hc acc => ⟨_, rfl, by
      unfold el__law_open_0 layD
      simp? only [wipeD]⟩)
  generalize hG : eSettle (eLcC [5] (iExp (eV 0) itL) (gN 5) (eC (.bl true)) el__law_open_0) = G at lc
  have i0 : ∀ sl ce, kIx (.im (.lst [.str (st a), .str (st b), .str (st c)])) (.im (.int 0)) sl ce = .ok (.im (.str (st a))) ce := fun _ _ => rfl
  have i1 : ∀ sl ce, kIx (.im (.lst [.str (st a), .str (st b), .str (st c)])) (.im (.int 1)) sl ce = .ok (.im (.str (st b))) ce := fun _ _ => rfl
  unfold f__law_open b__law_open
  rw [hG]
  simp? only [-kRepL, eSlice, eOpt, lc, i0, i1, f2, c1, r3, mk2, eq2, isC_c, kMeth, mw, qt, c2, mN1, ad1, r4, s3, mN0, ad0, s2, rv, iv, s2r, tn, eMthK, G_Core_narrowed_1_least_most, gApp, nr, sN, finD, List.take_length]
theorem m_lbare {a b c : List Nat} (ha : okK a) (hb : okK b) (hc : okK c) : f__law_bare [.im (.lst [.str (st a), .str (st b), .str (st c)])] ce = .ok (.im (.bl true)) ce := by
  have h3 : ∀ k ∈ [a, b, c], okK k := okK3 ha hb hc fun k hk => by
    simp only [List.mem_cons, List.not_mem_nil, or_false] at hk
    exact hk
  have f3 := fun ce => bare_ok (ce := ce) h3 (by simp)
  have s3 := fun ce => same_bare (ce := ce) h3 (by simp)
  have r4 := fun sl ce => rep_open (sl := sl) (ce := ce) 4 (by decide)
  have n4 : ((4 : Nat) : Int) = 4 := rfl
  rw [n4] at r4
  have o3 : openJ [a, b, c].length = List.replicate 4 (0, none) := rfl
  rw [o3] at f3 s3
  generalize (List.replicate 4 (0, none) : List Jnt) = R4 at f3 s3 r4
  have bs : ("B" : Str) = st [66] := by decide +kernel
  have ab := fun sl ce => add_st (sl := sl) (ce := ce) [66] b (by have := hb.2.1; rw [List.length_singleton]; omega)
  have xb : ∀ ce, f_bare_core ([a, [66] ++ b, c].map fun c => .im (.str (st c))) ce = .exc e_BadLayer [.int 1] ce := fun ce => by
    have la := ha.2.1
    have lb := hb.2.1
    have lc := hc.2.1
    rw [m_bare _ (fun k hk => by
      simp only [List.mem_cons, List.not_mem_nil, or_false] at hk
      rcases hk with rfl | rfl | rfl
      · omega
      · rw [List.length_append, List.length_singleton]; omega
      · omega) (by simp)]
    have oa : okLb (a, 1) = true := okLb_iff.mpr ⟨ha.1, ha.2.1, ha.2.2, by show (1 : Int) ≤ 1; decide⟩
    have ob : okLb ([66] ++ b, 1) = false := by
      refine Bool.eq_false_iff.mpr fun h => ?_
      have := (okLb_iff.mp h).2.2.1 66 (by simp)
      omega
    have e : coreE (bareL [a, [66] ++ b, c]) none = some (e_BadLayer, [.int (1 : Nat)]) := by
      unfold coreE
      rw [if_neg (by rw [bareL_len]; simp)]
      simp only [bareL, List.map_cons, List.map_nil, badF, oa, ob, if_true, Bool.false_eq_true, if_false]
    rw [e]
    rfl
  have lc : ∀ x1 x2 ce, eSettle (eLcC [3] (iExp (eV 0) itL) (gN 3) (eC (.bl true)) el__law_bare_0) [some (.im (.lst [.str (st a), .str (st b), .str (st c)])), x1, x2, none] ce = .ok (.im (laysD (bareL [a, b, c]))) ce := fun x1 x2 ce =>
    lc_bare (own := [3]) (fi := iExp (eV 0) itL) (g := gN 3) (f := el__law_bare_0) (sl := [some (.im (.lst [.str (st a), .str (st b), .str (st c)])), x1, x2, none]) (ce := ce) [a, b, c] (by simp? only []) (by simp) (fun c hc acc => ⟨_, rfl, by
      unfold el__law_bare_0 layD
      simp? only [wipeD]⟩)
  generalize hG : eSettle (eLcC [3] (iExp (eV 0) itL) (gN 3) (eC (.bl true)) el__law_bare_0) = G at lc
  have i0 : ∀ sl ce, kIx (.im (.lst [.str (st a), .str (st b), .str (st c)])) (.im (.int 0)) sl ce = .ok (.im (.str (st a))) ce := fun _ _ => rfl
  have i1 : ∀ sl ce, kIx (.im (.lst [.str (st a), .str (st b), .str (st c)])) (.im (.int 1)) sl ce = .ok (.im (.str (st b))) ce := fun _ _ => rfl
  have i2 : ∀ sl ce, kIx (.im (.lst [.str (st a), .str (st b), .str (st c)])) (.im (.int 2)) sl ce = .ok (.im (.str (st c))) ce := fun _ _ => rfl
  have r0 : e_BadLayer < 5 := by decide
  have x0 : x_BadLayer e_BadLayer = true := by decide
  have xi : ∀ sl ce, kXf [1, 2, 3, 4] 0 (.exn e_BadLayer [.int 1]) sl ce = .ok (.im (.int 1)) ce := fun _ _ => rfl
  have q1 : ∀ sl ce, kEq (.im (.int 1)) (.im (.int 1)) sl ce = .ok (.im (.bl true)) ce := fun sl ce => by rw [eqi2]; rfl
  have w1 : ∀ ce, fh__law_whole [.im (.int 1)] ce = .ok (.im (.bl true)) ce := fun ce => by
    unfold fh__law_whole noX bh__law_whole
    simp? only [kIsi, D.ty, i_int, i_bool, finD, List.take_length]
  have hb0 : ∀ sl ce, kCallH0 fh_bare_core sl ce = .ok (.im (coreD [] [(0, none)])) ce := fun sl ce => hot_bare
  have hs0 : ∀ ce, fh__law_same [.im (coreD [] [(0, none)]), .im (.lst []), .im (.lst [.tup [.int 0, .non]])] ce = .ok (.im (.bl true)) ce := fun ce => hot_same
  generalize [66] ++ b = B at ab xb
  simp only [List.map_cons, List.map_nil] at f3 xb
  unfold f__law_bare b__law_bare sTry
  rw [hG, bs]
  simp? only [-kRepL, -kAdd, lc, i0, i1, i2, f3, r4, s3, ab, xb, r0, x0, xi, w1, q1, hb0, hs0, offD, finD, List.take_length]
end
end ZZ
set_option Elab.async false
set_option linter.all false
set_option maxRecDepth 100000
set_option maxHeartbeats 4000000
namespace ZZ
open PySem PySem.Spec L2
section
variable {sl : Sl} {ce : List Cell} {ls ls2 : List Lay} {js js2 : List Jnt} {l : Lay} {j : Jnt} {jo : Option (List Jnt)} {ce0 : List Cell}
def oddA : List Lay := [([], 1), ([97, 98, 99, 100, 101, 102, 103, 104, 105, 106, 107, 108, 109], 1), ([67, 108, 97, 121], 2), ([99, 108, 52, 121], 2), ([99, 108, 32, 121], 2), ([99, 108, 97, 121], 0), ([99, 108, 97, 121], -1)]
def oddB : List Lay := [([99, 108, 97, 121], -1000000000000000000000000000000), ([97, 98, 99, 100, 101, 102, 103, 104, 105, 106, 107, 108], 1), ([122], 1000000000000000000000000000000), ([97], 1), ([], 0)]
def oddJ : List Jnt := [(-1, none), (3, some 2), (0, some 0), (5, some 5), (-2, some (-1)), (0, some (-1)), (1000000000000000000000000000000, some 999999999999999999999999999999), (1, some 0), (0, none)]
theorem odd_len : ∀ l ∈ oddA ++ oddB, l.1.length ≤ 1000 := by decide
theorem m_oddl (r : Int) (h0 : 0 ≤ r) (h1 : r < 12) : ∃ l : Lay, l.1.length ≤ 1000 ∧ ∀ ce, f__law_odd_layer [.im (.int r)] ce = .ok (.im (layD l)) ce := by
  obtain ⟨n, rfl⟩ : ∃ n : Nat, r = (n : Int) := ⟨r.toNat, by omega⟩
  have ln : (oddA ++ oddB).length = 12 := rfl
  have hg : (oddA ++ oddB)[n]? = some (oddA ++ oddB)[n] := List.getElem?_eq_getElem (by omega)
  refine ⟨(oddA ++ oddB)[n], odd_len _ (List.getElem_mem _), fun ce => ?_⟩
  have w0 : ("" : Str) = st [] := by decide +kernel
  have w1 : ("abcdefghijklm" : Str) = st [97, 98, 99, 100, 101, 102, 103, 104, 105, 106, 107, 108, 109] := by decide +kernel
  have w2 : ("Clay" : Str) = st [67, 108, 97, 121] := by decide +kernel
  have w3 : ("cl4y" : Str) = st [99, 108, 52, 121] := by decide +kernel
  have w4 : ("cl y" : Str) = st [99, 108, 32, 121] := by decide +kernel
  have w5 : ("clay" : Str) = st [99, 108, 97, 121] := by decide +kernel
  have w6 : ("abcdefghijkl" : Str) = st [97, 98, 99, 100, 101, 102, 103, 104, 105, 106, 107, 108] := by decide +kernel
  have w7 : ("z" : Str) = st [122] := by decide +kernel
  have w8 : ("a" : Str) = st [97] := by decide +kernel
  have pw : ∀ sl ce, kPow (.im (.int 10)) (.im (.int 30)) sl ce = .ok (.im (.int 1000000000000000000000000000000)) ce := fun _ _ => rfl
  have n1 : ∀ sl ce, kNeg (.im (.int 1)) sl ce = .ok (.im (.int (-1))) ce := fun _ _ => rfl
  have n2 : ∀ sl ce, kNeg (.im (.int 1000000000000000000000000000000)) sl ce = .ok (.im (.int (-1000000000000000000000000000000))) ce := fun _ _ => rfl
  have eA : D.lst [.tup [.str (st []), .int 1], .tup [.str (st [97, 98, 99, 100, 101, 102, 103, 104, 105, 106, 107, 108, 109]), .int 1], .tup [.str (st [67, 108, 97, 121]), .int 2], .tup [.str (st [99, 108, 52, 121]), .int 2], .tup [.str (st [99, 108, 32, 121]), .int 2], .tup [.str (st [99, 108, 97, 121]), .int 0], .tup [.str (st [99, 108, 97, 121]), .int (-1)]] = laysD oddA := rfl
  have eB : D.lst [.tup [.str (st [99, 108, 97, 121]), .int (-1000000000000000000000000000000)], .tup [.str (st [97, 98, 99, 100, 101, 102, 103, 104, 105, 106, 107, 108]), .int 1], .tup [.str (st [122]), .int 1000000000000000000000000000000], .tup [.str (st [97]), .int 1], .tup [.str (st []), .int 0]] = laysD oddB := rfl
  have ad := fun sl ce => adL (sl := sl) (ce := ce) (ls := oddA) (ls2 := oddB) (by decide)
  have ix := fun sl ce => lix (sl := sl) (ce := ce) hg
  have md : ∀ sl ce, kMod (.im (.int (n : Nat))) (.im (.int 12)) sl ce = .ok (.im (.int (n : Nat))) ce := fun sl ce => by
    unfold kMod
    simp only
    rw [if_pos (by decide), Int.emod_eq_of_lt h0 h1]
  unfold f__law_odd_layer b__law_odd_layer
  rw [w0, w1, w2, w3, w4, w5, w6, w7, w8]
  simp? only [-kAdd, -kMod, -kPow, pw, n1, n2, eA, eB, ad, md, ix, finD, List.take_length]
theorem m_oddj (r : Int) (h0 : 0 ≤ r) (h1 : r < 9) : ∃ j : Jnt, ∀ ce, f__law_odd_joint [.im (.int r)] ce = .ok (.im (jntD j)) ce := by
  obtain ⟨n, rfl⟩ : ∃ n : Nat, r = (n : Int) := ⟨r.toNat, by omega⟩
  have ln : oddJ.length = 9 := rfl
  have hg : oddJ[n]? = some oddJ[n] := List.getElem?_eq_getElem (by omega)
  refine ⟨oddJ[n], fun ce => ?_⟩
  have pw : ∀ sl ce, kPow (.im (.int 10)) (.im (.int 30)) sl ce = .ok (.im (.int 1000000000000000000000000000000)) ce := fun _ _ => rfl
  have n1 : ∀ sl ce, kNeg (.im (.int 1)) sl ce = .ok (.im (.int (-1))) ce := fun _ _ => rfl
  have n2 : ∀ sl ce, kNeg (.im (.int 2)) sl ce = .ok (.im (.int (-2))) ce := fun _ _ => rfl
  have sb : ∀ sl ce, kSub (.im (.int 1000000000000000000000000000000)) (.im (.int 1)) sl ce = .ok (.im (.int 999999999999999999999999999999)) ce := fun _ _ => rfl
  have eA : D.lst [.tup [.int (-1), .non], .tup [.int 3, .int 2], .tup [.int 0, .int 0], .tup [.int 5, .int 5], .tup [.int (-2), .int (-1)], .tup [.int 0, .int (-1)], .tup [.int 1000000000000000000000000000000, .int 999999999999999999999999999999], .tup [.int 1, .int 0], .tup [.int 0, .non]] = jntsD oddJ := rfl
  have ix := fun sl ce => jix (sl := sl) (ce := ce) hg
  have md : ∀ sl ce, kMod (.im (.int (n : Nat))) (.im (.int 9)) sl ce = .ok (.im (.int (n : Nat))) ce := fun sl ce => by
    unfold kMod
    simp only
    rw [if_pos (by decide), Int.emod_eq_of_lt h0 h1]
  unfold f__law_odd_joint b__law_odd_joint
  simp? only [-kSub, -kMod, -kPow, pw, n1, n2, sb, eA, md, ix, finD, List.take_length]
theorem lay_loop (n : Nat) (J : Cell) (a0 a4 a6 a7 a8 a9 a10 a11 a12 a13 : Option Val) : ∀ (items : List D) (ls : List Lay) (ds : List Int) (x5 : Option Val), ls.length = n → (∀ l ∈ ls, l.1.length ≤ 1000) → ∃ (ls' : List Lay) (ds' : List Int) (y5 : Option Val), ls'.length = n ∧ (∀ l ∈ ls', l.1.length ≤ 1000) ∧
    forD (gN 5) lp_law_2 items [a0, some (.cell 0), some (.im (.int (n : Nat))), some (.cell 1), a4, x5, a6, a7, a8, a9, a10, a11, a12, a13] [.lst (ds.map .int), .lst (ls.map layD), J] = .nx [a0, some (.cell 0), some (.im (.int (n : Nat))), some (.cell 1), a4, y5, a6, a7, a8, a9, a10, a11, a12, a13] [.lst (ds'.map .int), .lst (ls'.map layD), J]
  | [], ls, ds, x5, hn, hl => ⟨ls, ds, x5, hn, hl, by rw [forD]⟩
  | d :: items, ls, ds, x5, hn, hl => by
    have kl : ∀ sl c, kLen [.cell 1] sl [c, .lst (ls.map layD), J] = .ok (.im (.int (n : Nat))) [c, .lst (ls.map layD), J] := fun sl c => by
      have e := len_of (sl := sl) (ce := [c, .lst (ls.map layD), J]) (V := .cell 1) (ds := ls.map layD) rfl
      rw [List.length_map, hn] at e
      exact e
    have gt : ∀ (i j : Int) sl ce, kGt (.im (.int i)) (.im (.int j)) sl ce = .ok (.im (.bl (decide (j < i)))) ce := fun _ _ _ _ => rfl
    by_cases h : n = 0
    · have d0 : decide ((0 : Int) < (n : Int)) = false := decide_eq_false (by omega)
      obtain ⟨ls', ds', y5, q1, q2, ih⟩ := lay_loop n J a0 a4 a6 a7 a8 a9 a10 a11 a12 a13 items ls ds (some (.im d)) hn hl
      refine ⟨ls', ds', y5, q1, q2, ?_⟩
      have body : lp_law_2 [a0, some (.cell 0), some (.im (.int (n : Nat))), some (.cell 1), a4, some (.im d), a6, a7, a8, a9, a10, a11, a12, a13] [.lst (ds.map .int), .lst (ls.map layD), J] = .nx [a0, some (.cell 0), some (.im (.int (n : Nat))), some (.cell 1), a4, some (.im d), a6, a7, a8, a9, a10, a11, a12, a13] [.lst (ds.map .int), .lst (ls.map layD), J] := by
        unfold lp_law_2
        simp? only [-kLen, -kCmp, kl, gt, d0]
      rw [forD]
      simp only [gN, List.set_cons_zero, List.set_cons_succ, body, ih]
    · have d0 : decide ((0 : Int) < (n : Int)) = true := decide_eq_true (by omega)
      obtain ⟨r, d1, h0, h1, e1⟩ := m_drawc ds 12 [.lst (ls.map layD), J] (by decide)
      obtain ⟨l, hll, mo⟩ := m_oddl r h0 h1
      obtain ⟨r2, d2, h2, h3, e2⟩ := m_drawc d1 (n : Int) [.lst (ls.map layD), J] (by omega)
      obtain ⟨k, rfl⟩ : ∃ k : Nat, r2 = (k : Int) := ⟨r2.toNat, by omega⟩
      have hk : k < ls.length := by omega
      obtain ⟨ls', ds', y5, q1, q2, ih⟩ := lay_loop n J a0 a4 a6 a7 a8 a9 a10 a11 a12 a13 items (ls.set k l) d2 (some (.im d)) (by rw [List.length_set]; exact hn) (fun q hq => by
        rcases List.mem_or_eq_of_mem_set hq with z | z
        · exact hl q z
        · rw [z]; exact hll)
      refine ⟨ls', ds', y5, q1, q2, ?_⟩
      have body : lp_law_2 [a0, some (.cell 0), some (.im (.int (n : Nat))), some (.cell 1), a4, some (.im d), a6, a7, a8, a9, a10, a11, a12, a13] [.lst (ds.map .int), .lst (ls.map layD), J] = .nx [a0, some (.cell 0), some (.im (.int (n : Nat))), some (.cell 1), a4, some (.im d), a6, a7, a8, a9, a10, a11, a12, a13] [.lst (d2.map .int), .lst ((ls.set k l).map layD), J] := by
        unfold lp_law_2
        simp? only [-kLen, -kCmp, kl, gt, d0, sSetIx, e1, mo, e2, List.length_map, ixN_at hk, List.map_set]
      rw [forD]
      simp only [gN, List.set_cons_zero, List.set_cons_succ, body, ih]
theorem jnt_loop (m : Nat) (hm : m ≤ 900) (L : Cell) (a0 a2 a3 a6 a7 a8 a9 a10 a11 a12 a13 : Option Val) : ∀ (items : List D) (js : List Jnt) (ds : List Int) (x5 : Option Val), js.length = m → ∃ (js' : List Jnt) (ds' : List Int) (y5 : Option Val), js'.length = m ∧
    forD (gN 5) lp_law_3 items [a0, some (.cell 0), a2, a3, some (.cell 2), x5, a6, a7, a8, a9, a10, a11, a12, a13] [.lst (ds.map .int), L, .lst (js.map jntD)] = .nx [a0, some (.cell 0), a2, a3, some (.cell 2), y5, a6, a7, a8, a9, a10, a11, a12, a13] [.lst (ds'.map .int), L, .lst (js'.map jntD)]
  | [], js, ds, x5, hn => ⟨js, ds, x5, hn, by rw [forD]⟩
  | d :: items, js, ds, x5, hn => by
    have kl : ∀ sl c, kLen [.cell 2] sl [c, L, .lst (js.map jntD)] = .ok (.im (.int (m : Nat))) [c, L, .lst (js.map jntD)] := fun sl c => by
      have e := len_of (sl := sl) (ce := [c, L, .lst (js.map jntD)]) (V := .cell 2) (ds := js.map jntD) rfl
      rw [List.length_map, hn] at e
      exact e
    have gt : ∀ (i j : Int) sl ce, kGt (.im (.int i)) (.im (.int j)) sl ce = .ok (.im (.bl (decide (j < i)))) ce := fun _ _ _ _ => rfl
    by_cases h : m = 0
    · have d0 : decide ((0 : Int) < (m : Int)) = false := decide_eq_false (by omega)
      obtain ⟨js', ds', y5, q1, ih⟩ := jnt_loop m hm L a0 a2 a3 a6 a7 a8 a9 a10 a11 a12 a13 items js ds (some (.im d)) hn
      refine ⟨js', ds', y5, q1, ?_⟩
      have body : lp_law_3 [a0, some (.cell 0), a2, a3, some (.cell 2), some (.im d), a6, a7, a8, a9, a10, a11, a12, a13] [.lst (ds.map .int), L, .lst (js.map jntD)] = .nx [a0, some (.cell 0), a2, a3, some (.cell 2), some (.im d), a6, a7, a8, a9, a10, a11, a12, a13] [.lst (ds.map .int), L, .lst (js.map jntD)] := by
        unfold lp_law_3
        simp? only [-kLen, -kCmp, kl, gt, d0]
      rw [forD]
      simp only [gN, List.set_cons_zero, List.set_cons_succ, body, ih]
    · have d0 : decide ((0 : Int) < (m : Int)) = true := decide_eq_true (by omega)
      obtain ⟨r, d1, h0, h1, e1⟩ := m_drawc ds 9 [L, .lst (js.map jntD)] (by decide)
      obtain ⟨l, mo⟩ := m_oddj r h0 h1
      obtain ⟨r2, d2, h2, h3, e2⟩ := m_drawc d1 (m : Int) [L, .lst (js.map jntD)] (by omega)
      obtain ⟨k, rfl⟩ : ∃ k : Nat, r2 = (k : Int) := ⟨r2.toNat, by omega⟩
      have hk : k < js.length := by omega
      obtain ⟨js', ds', y5, q1, ih⟩ := jnt_loop m hm L a0 a2 a3 a6 a7 a8 a9 a10 a11 a12 a13 items (js.set k l) d2 (some (.im d)) (by rw [List.length_set]; exact hn)
      refine ⟨js', ds', y5, q1, ?_⟩
      have body : lp_law_3 [a0, some (.cell 0), a2, a3, some (.cell 2), some (.im d), a6, a7, a8, a9, a10, a11, a12, a13] [.lst (ds.map .int), L, .lst (js.map jntD)] = .nx [a0, some (.cell 0), a2, a3, some (.cell 2), some (.im d), a6, a7, a8, a9, a10, a11, a12, a13] [.lst (d2.map .int), L, .lst ((js.set k l).map jntD)] := by
        unfold lp_law_3
        simp? only [-kLen, -kCmp, kl, gt, d0, sSetIx, e1, mo, e2, List.length_map, ixN_at hk, List.map_set]
      rw [forD]
      simp only [gN, List.set_cons_zero, List.set_cons_succ, body, ih]
end
end ZZ
set_option Elab.async false
set_option linter.all false
set_option maxRecDepth 100000
set_option maxHeartbeats 4000000
namespace ZZ
open PySem PySem.Spec L2
section
variable {sl : Sl} {ce : List Cell} {ls ls2 : List Lay} {js js2 : List Jnt} {l : Lay} {j : Jnt} {jo : Option (List Jnt)} {ce0 : List Cell}
theorem lift_ls {α : Type} {P : α → Prop} {f : α → D} : ∀ {ds ys : List D}, ys.length = ds.length → (∀ (i : Nat) (d y : D), ds[i]? = some d → ys[i]? = some y → ∃ l, P l ∧ y = f l) → ∃ ls : List α, (∀ l ∈ ls, P l) ∧ ys = ls.map f ∧ ls.length = ds.length
  | [], ys, h, _ => by
    have : ys = [] := List.eq_nil_of_length_eq_zero (by rw [h]; rfl)
    exact ⟨[], fun l q => (by cases q), this, rfl⟩
  | d :: ds, [], h, _ => by cases h
  | d :: ds, y :: ys, h, r => by
    obtain ⟨l, hl, rfl⟩ := r 0 d y rfl rfl
    obtain ⟨ls, h1, h2, h3⟩ := lift_ls (P := P) (f := f) (ds := ds) (ys := ys) (by simpa using h) fun i d y a b => r (i + 1) d y (by simpa using a) (by simpa using b)
    refine ⟨l :: ls, fun q hq => ?_, by rw [h2, List.map_cons], by rw [List.length_cons, List.length_cons, h3]⟩
    rcases List.mem_cons.mp hq with rfl | hq
    · exact hl
    · exact h1 q hq
theorem law_lays (a0 : Option Val) (n : Nat) (hn : n ≤ 22) (ds : List Int) : ∃ (ls : List Lay) (ds' : List Int), ls.length = n ∧ (∀ l ∈ ls, okL l) ∧ eLcC [13] (iArgs [(eV 2)] kRng1) (gN 13) (eC (.bl true)) el_law_0 [a0, some (.cell 0), some (.im (.int (n : Nat))), none, none, none, none, none, none, none, none, none, none, none] [.lst (ds.map .int)] = .ok (.cell 1) [.lst (ds'.map .int), .lst (ls.map layD)] := by
  have rg := rng1 n (by omega)
  obtain ⟨ys, ce4, e4, ⟨ds4, rfl⟩, l4, r4⟩ := lcD_thread (own := [13]) (g := gN 13) (f := el_law_0) (sl := [a0, some (.cell 0), some (.im (.int (n : Nat))), none, none, none, none, none, none, none, none, none, none, none]) (fun ce => ∃ ds : List Int, ce = [.lst (ds.map .int)]) (fun _ y => ∃ l : Lay, okL l ∧ y = layD l) 1 (by rintro ce' ⟨ds, rfl⟩; rfl)
    ((List.range n).map fun (i : Nat) => D.int (i : Int)) [] [.lst (ds.map .int)] (by rw [List.length_map, List.length_range, List.length_nil]; omega) ⟨_, rfl⟩
    (by
      rintro d hd acc ce ⟨ds, rfl⟩
      obtain ⟨cs, d1, hc, e1⟩ := m_lwordk ds [.lst acc]
      obtain ⟨m, d2, hm, e2⟩ := m_numc d1 [.lst acc]
      have ka : ∀ sl ce, kAdd (.im (.int 1)) (.im (.int (m : Nat))) sl ce = .ok (.im (.int (1 + (m : Int)))) ce := fun _ _ => rfl
      refine ⟨_, [.lst (d2.map .int)], layD (cs, 1 + (m : Int)), rfl, ?_, ⟨_, rfl⟩, (cs, 1 + (m : Int)), ⟨hc.1, hc.2.1, hc.2.2, by show (1 : Int) ≤ 1 + m; omega⟩, rfl⟩
      unfold el_law_0
      simp? only [-kAdd, wipeD, List.cons_append, List.nil_append, e1, e2, ka, layD])
  obtain ⟨ls, h1, rfl, h3⟩ := lift_ls l4 r4
  refine ⟨ls, ds4, by rw [h3, List.length_map, List.length_range], h1, ?_⟩
  unfold eLcC
  simp? only [rg]
  exact e4
theorem law_jnts (a0 : Option Val) (n : Nat) (hn : n ≤ 22) (L : Cell) (ds : List Int) : ∃ (js : List Jnt) (ds' : List Int), js.length ≤ 24 ∧ eLcC [13] (iArgs [(eBin kAdd (eV 2) (eBin kIx (eArgs [(eC (.int 1)), (eC (.int 1)), (eC (.int 1)), (eC (.int 0)), (eC (.int 2))] kLst) (eArgs [(eV 1), (eC (.int 5))] (kCall f__law_draw))))] kRng1) (gN 13) (eC (.bl true)) el_law_1 [a0, some (.cell 0), some (.im (.int (n : Nat))), some (.cell 1), none, none, none, none, none, none, none, none, none, none] [.lst (ds.map .int), L] = .ok (.cell 2) [.lst (ds'.map .int), L, .lst (js.map jntD)] := by
  obtain ⟨r, d0, h0, h1, e0⟩ := m_drawc ds 5 [L] (by decide)
  obtain ⟨k, hk, ix⟩ : ∃ k : Nat, k ≤ 2 ∧ ∀ sl ce, kIx (.im (.lst [.int 1, .int 1, .int 1, .int 0, .int 2])) (.im (.int r)) sl ce = .ok (.im (.int (k : Nat))) ce := by
    have e : r = 0 ∨ r = 1 ∨ r = 2 ∨ r = 3 ∨ r = 4 := by omega
    rcases e with rfl | rfl | rfl | rfl | rfl
    · exact ⟨1, by decide, fun _ _ => rfl⟩
    · exact ⟨1, by decide, fun _ _ => rfl⟩
    · exact ⟨1, by decide, fun _ _ => rfl⟩
    · exact ⟨0, by decide, fun _ _ => rfl⟩
    · exact ⟨2, by decide, fun _ _ => rfl⟩
  have ka : ∀ sl ce, kAdd (.im (.int (n : Nat))) (.im (.int (k : Nat))) sl ce = .ok (.im (.int ((n + k : Nat) : Int))) ce := fun _ _ => rfl
  have rg := rng1 (n + k) (by omega)
  obtain ⟨ys, ce4, e4, ⟨ds4, rfl⟩, l4, r4⟩ := lcD_thread (own := [13]) (g := gN 13) (f := el_law_1) (sl := [a0, some (.cell 0), some (.im (.int (n : Nat))), some (.cell 1), none, none, none, none, none, none, none, none, none, none]) (fun ce => ∃ ds : List Int, ce = [.lst (ds.map .int), L]) (fun _ y => ∃ j : Jnt, True ∧ y = jntD j) 2 (by rintro ce' ⟨ds, rfl⟩; rfl)
    ((List.range (n + k)).map fun (i : Nat) => D.int (i : Int)) [] [.lst (d0.map .int), L] (by rw [List.length_map, List.length_range, List.length_nil]; omega) ⟨_, rfl⟩
    (by
      rintro d hd acc ce ⟨ds, rfl⟩
      obtain ⟨j, d1, hj, e1⟩ := m_lbnds ds [L, .lst acc]
      refine ⟨_, [.lst (d1.map .int), L], jntD j, rfl, ?_, ⟨_, rfl⟩, j, trivial, rfl⟩
      unfold el_law_1
      simp? only [wipeD, List.cons_append, List.nil_append, e1])
  obtain ⟨js, _, rfl, h3⟩ := lift_ls (P := fun _ => True) l4 r4
  refine ⟨js, ds4, by rw [h3, List.length_map, List.length_range]; omega, ?_⟩
  unfold eLcC
  simp? only [-kAdd, e0, ix, ka, rg]
  exact e4
theorem law_kinds (a0 a1 a2 a3 a4 a5 : Option Val) (h1 : a1 = some (.cell 0)) (R : List Cell) (ds : List Int) : ∃ (a b c : List Nat) (ds' : List Int), okK a ∧ okK b ∧ okK c ∧ eSettle (eLcC [13] (iArgs [(eC (.int 3))] kRng1) (gN 13) (eC (.bl true)) el_law_4) [a0, a1, a2, a3, a4, a5, none, none, none, none, none, none, none, none] (.lst (ds.map .int) :: R) = .ok (.im (.lst [.str (st a), .str (st b), .str (st c)])) (.lst (ds'.map .int) :: R) := by
  subst h1
  have rg := rng1 3 (by decide)
  have z3 : ((3 : Nat) : Int) = 3 := rfl
  rw [z3] at rg
  obtain ⟨ys, ce4, e4, ⟨ds4, rfl⟩, l4, r4⟩ := lc_thread (own := [13]) (fi := iArgs [(eC (.int 3))] kRng1) (g := gN 13) (f := el_law_4) (sl := [a0, some (.cell 0), a2, a3, a4, a5, none, none, none, none, none, none, none, none]) (ce := .lst (ds.map .int) :: R) ((List.range 3).map fun (i : Nat) => D.int (i : Int))
    (fun ce => ∃ ds : List Int, ce = .lst (ds.map .int) :: R) (fun _ y => ∃ c : List Nat, okK c ∧ y = .str (st c)) (by simp? only [rg]) (by simp) ⟨_, rfl⟩ (by rintro ce' ⟨ds, rfl⟩; rfl)
    (by
      rintro d hd acc ce ⟨ds, rfl⟩
      obtain ⟨cs, d1, hc, e1⟩ := m_lwordk ds (R ++ [.lst acc])
      refine ⟨_, .lst (d1.map .int) :: R, .str (st cs), rfl, ?_, ⟨_, rfl⟩, cs, hc, rfl⟩
      unfold el_law_4
      simp? only [wipeD, List.cons_append, e1])
  obtain ⟨ks, h1, rfl, h3⟩ := lift_ls (P := okK) (f := fun c => D.str (st c)) l4 r4
  rw [List.length_map, List.length_range] at h3
  match ks, h3, h1 with
  | [a, b, c], _, h1 => exact ⟨a, b, c, ds4, h1 a (by simp), h1 b (by simp), h1 c (by simp), e4⟩
theorem core_loop (h : OkC ls js) (a0 a1 a2 a5 a6 a7 a8 a9 a10 a11 a13 : Option Val) : ∀ (items : List D) (x12 : Option Val), (∀ d ∈ items, d = coreD ls js) → ∃ y12, forD (gN 12) lp_law_5 items [a0, a1, a2, some (.im (laysD ls)), some (.im (jntsD js)), a5, a6, a7, a8, a9, a10, a11, x12, a13] ce = .nx [a0, a1, a2, some (.im (laysD ls)), some (.im (jntsD js)), a5, a6, a7, a8, a9, a10, a11, y12, a13] ce
  | [], x12, _ => ⟨x12, by rw [forD]⟩
  | d :: items, x12, hd => by
    obtain rfl := hd d (List.mem_cons_self ..)
    obtain ⟨y12, ih⟩ := core_loop h a0 a1 a2 a5 a6 a7 a8 a9 a10 a11 a13 items (some (.im (coreD ls js))) fun x hx => hd x (List.mem_cons_of_mem _ hx)
    refine ⟨y12, ?_⟩
    have ms := fun ce => m_same (ce := ce) h
    have body : lp_law_5 [a0, a1, a2, some (.im (laysD ls)), some (.im (jntsD js)), a5, a6, a7, a8, a9, a10, a11, some (.im (coreD ls js)), a13] ce = .nx [a0, a1, a2, some (.im (laysD ls)), some (.im (jntsD js)), a5, a6, a7, a8, a9, a10, a11, some (.im (coreD ls js)), a13] ce := by
      unfold lp_law_5
      simp? only [ms]
    rw [forD]
    simp only [gN, List.set_cons_zero, List.set_cons_succ, body, ih]
theorem got1 (o : Option (Nat × List D)) : ∃ i : Int, ∀ sl ce, kIx (.im (gotD o)) (.im (.int 1)) sl ce = .ok (.im (.int i)) ce := by
  unfold gotD
  split <;> exact ⟨_, fun _ _ => rfl⟩
theorem got0 : kIx (.im (gotD (coreE ls jo))) (.im (.int 0)) sl ce = .ok (.im (.str (gotW (coreE ls jo)))) ce := by
  cases hE : coreE ls jo with
  | none => rfl
  | some e => rcases coreE_cases hE with rfl | ⟨i, rfl⟩ | ⟨i, rfl⟩ <;> rfl
theorem ne_made {e : Nat × List D} (hE : coreE ls jo = some e) : kNe (.im (.str (gotW (some e)))) (.im (.str "made")) sl ce = .ok (.im (.bl true)) ce := by
  rcases coreE_cases hE with rfl | ⟨i, rfl⟩ | ⟨i, rfl⟩
  · exact eq_word _ _ w_core w_made true (r := false) (by decide +kernel)
  · exact eq_word _ _ w_layer w_made true (r := false) (by decide +kernel)
  · exact eq_word _ _ w_joint w_made true (r := false) (by decide +kernel)
theorem eq_made : kNe (.im (.str (gotW none))) (.im (.str "made")) sl ce = .ok (.im (.bl false)) ce := eq_word _ _ w_made w_made true (r := true) (by decide +kernel)
end
end ZZ
set_option Elab.async false
set_option linter.all false
set_option maxRecDepth 100000
set_option maxHeartbeats 4000000
namespace ZZ
open PySem PySem.Spec L2
section
variable {sl : Sl} {ce : List Cell}
theorem law_true (ns : List Int) (hn : ns.length ≤ 63) : ∃ ce', f_law [.im (.wl (ns.map .int))] [] = .ok (.im (.bl true)) ce' := by
  obtain ⟨ds0, e0⟩ := m_pool ns hn 500 (by decide) []
  have z500 : ((500 : Nat) : Int) = 500 := rfl
  rw [z500] at e0
  have es : D.wl (ns.map .int) = scr ns := rfl
  rw [es]
  obtain ⟨S, hS⟩ : ∃ S, S = scr ns := ⟨_, rfl⟩
  rw [← hS] at e0 ⊢
  obtain ⟨r1, ds1, a1, b1, e1⟩ := m_drawc ds0 2 [] (by decide)
  obtain ⟨t, t1, t2, et⟩ : ∃ t : Nat, 1 ≤ t ∧ t ≤ 23 ∧ ∀ sl ce, kIx (.im (.lst [.int 4, .int 23])) (.im (.int r1)) sl ce = .ok (.im (.int (t : Nat))) ce := by
    have e : r1 = 0 ∨ r1 = 1 := by omega
    rcases e with rfl | rfl
    · exact ⟨4, by decide, by decide, fun _ _ => rfl⟩
    · exact ⟨23, by decide, by decide, fun _ _ => rfl⟩
  obtain ⟨r2, ds2, a2, b2, e2⟩ := m_drawc ds1 (t : Int) [] (by omega)
  obtain ⟨n, rfl⟩ : ∃ n : Nat, r2 = (n : Int) := ⟨r2.toNat, by omega⟩
  have hn22 : n ≤ 22 := by omega
  obtain ⟨ls0, ds3, hl0, okl0, e3⟩ := law_lays (some (.im S)) n hn22 ds2
  obtain ⟨js0, ds4, hj0, e4⟩ := law_jnts (some (.im S)) n hn22 (.lst (ls0.map layD)) ds3
  obtain ⟨r5, ds5, a5, b5, e5⟩ := m_drawc ds4 3 [.lst (ls0.map layD), .lst (js0.map jntD)] (by decide)
  obtain ⟨q5, rfl⟩ : ∃ n : Nat, r5 = (n : Int) := ⟨r5.toNat, by omega⟩
  have g5 := rng1 q5 (by omega)
  obtain ⟨ls, ds6, y5, hl, okl, e6⟩ := lay_loop n (.lst (js0.map jntD)) (some (.im S)) (some (.cell 2)) none none none none none none none none ((List.range q5).map fun (i : Nat) => D.int (i : Int)) ls0 ds5 none hl0 fun l h => okL_len (okl0 l h)
  have F6 : sFor (iArgs [(eArgs [(eV 1), (eC (.int 3))] (kCall f__law_draw))] kRng1) (gN 5) lp_law_2 [some (.im S), some (.cell 0), some (.im (.int (n : Nat))), some (.cell 1), some (.cell 2), none, none, none, none, none, none, none, none, none] [.lst (ds4.map .int), .lst (ls0.map layD), .lst (js0.map jntD)] = .nx [some (.im S), some (.cell 0), some (.im (.int (n : Nat))), some (.cell 1), some (.cell 2), y5, none, none, none, none, none, none, none, none] [.lst (ds6.map .int), .lst (ls.map layD), .lst (js0.map jntD)] := by
    simp? only [e5, g5]
    exact e6
  obtain ⟨r7, ds7, a7, b7, e7⟩ := m_drawc ds6 3 [.lst (ls.map layD), .lst (js0.map jntD)] (by decide)
  obtain ⟨q7, rfl⟩ : ∃ n : Nat, r7 = (n : Int) := ⟨r7.toNat, by omega⟩
  have g7 := rng1 q7 (by omega)
  obtain ⟨js, ds8, x5, hj, e8⟩ := jnt_loop js0.length (by omega) (.lst (ls.map layD)) (some (.im S)) (some (.im (.int (n : Nat)))) (some (.cell 1)) none none none none none none none none ((List.range q7).map fun (i : Nat) => D.int (i : Int)) js0 ds7 y5 rfl
  have F7 : sFor (iArgs [(eArgs [(eV 1), (eC (.int 3))] (kCall f__law_draw))] kRng1) (gN 5) lp_law_3 [some (.im S), some (.cell 0), some (.im (.int (n : Nat))), some (.cell 1), some (.cell 2), y5, none, none, none, none, none, none, none, none] [.lst (ds6.map .int), .lst (ls.map layD), .lst (js0.map jntD)] = .nx [some (.im S), some (.cell 0), some (.im (.int (n : Nat))), some (.cell 1), some (.cell 2), x5, none, none, none, none, none, none, none, none] [.lst (ds8.map .int), .lst (ls.map layD), .lst (js.map jntD)] := by
    simp? only [e7, g7]
    exact e8
  obtain ⟨r9, ds9, a9, b9, e9⟩ := m_drawc ds8 4 [.lst (ls.map layD), .lst (js.map jntD)] (by decide)
  obtain ⟨x4, hx4⟩ : ∃ x : Val, x = (if r9 = 0 then .im .non else .cell 2) := ⟨_, rfl⟩
  obtain ⟨a, b, c, ds10, oa, ob, oc, e10⟩ := law_kinds (some (.im S)) (some (.cell 0)) (some (.im (.int (n : Nat)))) (some (.cell 1)) (some x4) x5 rfl [.lst (ls.map layD), .lst (js.map jntD)] ds9
  have m1 := fun ce => m_lbare (ce := ce) oa ob oc
  have m2 := fun ce => m_many (ce := ce) oa ob oc
  have m3 := fun ce => m_open (ce := ce) oa ob oc
  obtain ⟨ds11, e11⟩ := m_counts [a, b, c] (okK3 oa ob oc fun k hk => by
    simp only [List.mem_cons, List.not_mem_nil, or_false] at hk
    exact hk) rfl ds10 [.lst (ls.map layD), .lst (js.map jntD)]
  simp only [List.map_cons, List.map_nil] at e11
  obtain ⟨ds12, e12⟩ := m_signs a (by have := oa.2.1; omega) ds11 [.lst (ls.map layD), .lst (js.map jntD)]
  have i0 : ∀ sl ce, kIx (.im (.lst [.str (st a), .str (st b), .str (st c)])) (.im (.int 0)) sl ce = .ok (.im (.str (st a))) ce := fun _ _ => rfl
  have w20 := fun ce => m_whole (ce := ce) 20
  have n20 : ∀ sl ce, kNe (.im (.int 20)) (.im (.int 20)) sl ce = .ok (.im (.bl false)) ce := fun sl ce => by
    show kEqG true _ _ sl ce = _
    rw [eq_int]
    rfl
  have qq := fun i j sl ce => eqi2 (sl := sl) (ce := ce) i j
  have hl900 : ls.length ≤ 900 := by omega
  obtain ⟨P, hP⟩ : ∃ P, P = Cell.lst (ds12.map .int) := ⟨_, rfl⟩
  rw [← hP] at e12
  have hdd : ∀ X : List D, X.length ≤ 16777215 → X.length < 16777216 := fun X h => by omega
  generalize hG3 : eLcC [13] (iArgs [(eV 2)] kRng1) (gN 13) (eC (.bl true)) el_law_0 = G3 at e3
  generalize hG4 : eLcC [13] (iArgs [(eBin kAdd (eV 2) (eBin kIx (eArgs [(eC (.int 1)), (eC (.int 1)), (eC (.int 1)), (eC (.int 0)), (eC (.int 2))] kLst) (eArgs [(eV 1), (eC (.int 5))] (kCall f__law_draw))))] kRng1) (gN 13) (eC (.bl true)) el_law_1 = G4 at e4
  generalize hG6 : sFor (iArgs [(eArgs [(eV 1), (eC (.int 3))] (kCall f__law_draw))] kRng1) (gN 5) lp_law_2 = G6 at F6
  generalize hG7 : sFor (iArgs [(eArgs [(eV 1), (eC (.int 3))] (kCall f__law_draw))] kRng1) (gN 5) lp_law_3 = G7 at F7
  generalize hG8 : eSettle (eLcC [13] (iArgs [(eC (.int 3))] kRng1) (gN 13) (eC (.bl true)) el_law_4) = G8 at e10
  have lcC : ∀ sl X Y, kListC [.im (laysD ls)] sl [P, X, Y] = .ok (.cell 3) [P, X, Y, .lst (ls.map layD)] := fun _ _ _ => rfl
  have zz : D.tup [.str "zz", .int 5] = .tup [.str "zz", .int 5] := rfl
  by_cases h9 : r9 = 0
  · rw [if_pos h9] at hx4
    subst hx4
    have d9 := decide_eq_true h9
    have fz : ∀ (f : DSt) (b5 b6 b7 b8 b9 b10 b11 b12 b13 : Option Val) (J : Cell), frzO 4 (frz 3 f) [some (.im S), some (.cell 0), some (.im (.int (n : Nat))), some (.cell 1), some (.im .non), b5, b6, b7, b8, b9, b10, b11, b12, b13] [P, .lst (ls.map layD), J] = f [some (.im S), some (.cell 0), some (.im (.int (n : Nat))), some (.im (laysD ls)), some (.im .non), b5, b6, b7, b8, b9, b10, b11, b12, b13] [P, .dead, J] := fun _ _ _ _ _ _ _ _ _ _ _ => rfl
    have du := fun ce => m_due (ce := ce) (ls := ls) (jo := none) okl hl900 fun js z => by cases z
    have go := fun ce => m_got (ce := ce) (ls := ls) (jo := none) okl hl900
    have ng := fun sl ce => tag_got (sl := sl) (ce := ce) (coreE ls none) true
    obtain ⟨iv, i1⟩ := got1 (coreE ls none)
    have g0 := fun sl ce => got0 (sl := sl) (ce := ce) (ls := ls) (jo := none)
    have wi := fun ce => m_whole (ce := ce) iv
    have ng' : ∀ sl ce, kNe (.im (gotD (coreE ls none))) (.im (gotD (coreE ls none))) sl ce = .ok (.im (.bl false)) ce := ng
    simp only [joD] at du go
    cases hE : coreE ls none with
    | some e =>
      have nm := fun sl ce => ne_made (sl := sl) (ce := ce) hE
      have mb := fun ce => m_base (ce := ce) hE okl hl900
      simp only [joD] at mb
      rw [hE] at du go ng' i1 g0
      unfold f_law b_law
      rw [hG3, hG4, hG6, hG7, hG8]
      simp? only [-frz, -kIx, e0, e1, et, e2, e3, e4, F6, F7, e9, qq, d9, e10, w20, n20, m1, m2, m3, e11, i0, e12, fz, du, go, ng', i1, wi, g0, nm, mb, finD]
      exact ⟨_, rfl⟩
    | none =>
      have nm := fun sl ce => eq_made (sl := sl) (ce := ce)
      rw [hE] at du go ng' i1 g0
      have ok := coreE_okc hE
      have hjo : jof ls none = openJ n := by rw [← hl]; rfl
      rw [hjo] at ok
      have q1 : ∀ sl X Y, kMakeN c_Core 2 f_Core___init__ [.cell 3] sl [P, X, Y, .lst (ls.map layD)] = .ok (.im (coreD ls (openJ n))) [P, X, Y, .lst (ls.map layD)] := fun sl X Y => by
        have q := k_makeN (sl := sl) (ce := [P, X, Y, .lst (ls.map layD)]) (ls := ls) (V1 := .cell 3) rfl okl hl900 rfl
        rw [hE, hl] at q
        exact q
      have q2 : ∀ sl X Y, kMake c_Core 2 f_Core___init__ [.cell 3, .im .non] sl [P, X, Y, .lst (ls.map layD)] = .ok (.im (coreD ls (openJ n))) [P, X, Y, .lst (ls.map layD)] := fun sl X Y => by
        have q := k_makeX (sl := sl) (ce := [P, X, Y, .lst (ls.map layD)]) (ls := ls) (jo := none) (V1 := .cell 3) (V2 := .im .non) rfl rfl okl hl900 rfl rfl
        rw [hE, hjo] at q
        exact q
      have q3 : ∀ sl X Y, kMakeQ c_Core 2 f_Core___init__ [.cell 3, .im .non] sl [P, X, Y, .lst (ls.map layD)] = .ok (.im (coreD ls (openJ n))) [P, X, Y, .lst (ls.map layD)] := fun sl X Y => by
        have q := k_makeQ (sl := sl) (ce := [P, X, Y, .lst (ls.map layD)]) (ls := ls) (jo := none) (V1 := .cell 3) (V2 := .im .non) rfl rfl okl hl900 rfl rfl hE
        rw [hjo] at q
        exact q
      have nn : ∀ sl ce, kIsN false (.im .non) (.im .non) sl ce = .ok (.im (.bl true)) ce := fun _ _ => rfl
      have ka : ∀ sl ce, kAdd (.im (.int (n : Nat))) (.im (.int 1)) sl ce = .ok (.im (.int ((n + 1 : Nat) : Int))) ce := fun _ _ => rfl
      have rp : ∀ sl ce, kRepL (.im (.lst [.tup [.int 0, .non]])) (.im (.int ((n + 1 : Nat) : Int))) sl ce = .ok (.im (jntsD (openJ n))) ce := fun sl ce => rep_open (n + 1) (by omega)
      have nh : ∀ sl X Y, kNe (.cell 3) (.im (laysD ls)) sl [P, X, Y, .lst (ls.map layD)] = .ok (.im (.bl false)) [P, X, Y, .lst (ls.map layD)] := fun sl X Y => by
        show kEqG true _ _ _ _ = _
        rw [eq_any (d := laysD ls) (e := laysD ls) rfl rfl (lays_okD ok.l) (lays_okD ok.l), eqD_refl _ 60 (lays_okD ok.l)]
        rfl
      have ap : ∀ sl X Y d, kAppend (.cell 3) [.im d] sl [P, X, Y, .lst (ls.map layD)] = .ok (.im .non) [P, X, Y, .lst (ls.map layD ++ [d])] := fun sl X Y d => by
        unfold kAppend
        simp only [List.getElem?_cons_succ, List.getElem?_cons_zero]
        rw [if_pos (by rw [List.length_map]; show _ < 16777216; omega)]
        rfl
      have ty : ∀ X Y Z, tyL [P, X, Y, .lst Z] (.cell 3) = true := fun _ _ _ => rfl
      have ix0 : ∀ d : D, ixN (ls.map layD ++ [d]).length 0 = some 0 := fun d => ixN_at (n := (ls.map layD ++ [d]).length) (k := 0) (by simp)
      obtain ⟨y12, cl⟩ := core_loop (ce := [P, .dead, .lst (js.map jntD), .lst ((ls.map layD ++ [D.tup [.str "zz", .int 5]]).set 0 (D.tup [.str "zz", .int 7]))]) ok (some (.im S)) (some (.cell 0)) (some (.im (.int (n : Nat)))) x5 (some (.im (.lst [.str (st a), .str (st b), .str (st c)]))) (some (.im (gotD none))) (some (.im (gotD none))) (some (.cell 3)) (some (.im (.lst [coreD ls (openJ n), coreD ls (openJ n), coreD ls (openJ n)]))) none none [coreD ls (openJ n), coreD ls (openJ n), coreD ls (openJ n)] none (fun d hd => by
        simp only [List.mem_cons, List.not_mem_nil, or_false, or_self] at hd
        exact hd)
      have kA := @ka
      unfold f_law b_law
      rw [hG3, hG4, hG6, hG7, hG8]
      simp? only [-frz, -kIx, -kRepL, -kAdd, -tyL, -kListC, -kAppend, e0, e1, et, e2, e3, e4, F6, F7, e9, qq, d9, e10, w20, n20, m1, m2, m3, e11, i0, e12, fz, du, go, ng', i1, wi, g0, nm, lcC, nn, q1, q2, q3, ka, rp, nh, ty, ap, sSetIx, ix0, cl, finD]
      exact ⟨_, rfl⟩
  · rw [if_neg h9] at hx4
    subst hx4
    have d9 := decide_eq_false h9
    have fz : ∀ (f : DSt) (b5 b6 b7 b8 b9 b10 b11 b12 b13 : Option Val), frzO 4 (frz 3 f) [some (.im S), some (.cell 0), some (.im (.int (n : Nat))), some (.cell 1), some (.cell 2), b5, b6, b7, b8, b9, b10, b11, b12, b13] [P, .lst (ls.map layD), .lst (js.map jntD)] = f [some (.im S), some (.cell 0), some (.im (.int (n : Nat))), some (.im (laysD ls)), some (.im (jntsD js)), b5, b6, b7, b8, b9, b10, b11, b12, b13] [P, .dead, .dead] := fun _ _ _ _ _ _ _ _ _ _ => rfl
    have hj900 : js.length ≤ 900 := by omega
    have du := fun ce => m_due (ce := ce) (ls := ls) (jo := some js) okl hl900 fun js z => by cases z; exact hj900
    have go := fun ce => m_got (ce := ce) (ls := ls) (jo := some js) okl hl900
    obtain ⟨iv, i1⟩ := got1 (coreE ls (some js))
    have g0 := fun sl ce => got0 (sl := sl) (ce := ce) (ls := ls) (jo := some js)
    have wi := fun ce => m_whole (ce := ce) iv
    have ng' : ∀ sl ce, kNe (.im (gotD (coreE ls (some js)))) (.im (gotD (coreE ls (some js)))) sl ce = .ok (.im (.bl false)) ce := fun sl ce => tag_got (sl := sl) (ce := ce) (coreE ls (some js)) true
    simp only [joD] at du go
    cases hE : coreE ls (some js) with
    | some e =>
      have nm := fun sl ce => ne_made (sl := sl) (ce := ce) hE
      have mb := fun ce => m_base (ce := ce) hE okl hl900
      simp only [joD] at mb
      rw [hE] at du go ng' i1 g0
      unfold f_law b_law
      rw [hG3, hG4, hG6, hG7, hG8]
      simp? only [-frz, -kIx, e0, e1, et, e2, e3, e4, F6, F7, e9, qq, d9, e10, w20, n20, m1, m2, m3, e11, i0, e12, fz, du, go, ng', i1, wi, g0, nm, mb, finD]
      exact ⟨_, rfl⟩
    | none =>
      have nm := fun sl ce => eq_made (sl := sl) (ce := ce)
      rw [hE] at du go ng' i1 g0
      have ok : OkC ls js := coreE_okc hE
      have hm := ok.m
      have nn : ∀ sl ce, kIsN false (.im (jntsD js)) (.im .non) sl ce = .ok (.im (.bl false)) ce := fun _ _ => rfl
      have lcD : ∀ sl X Y Z, kListC [.im (jntsD js)] sl [P, X, Y, Z] = .ok (.cell 4) [P, X, Y, Z, .lst (js.map jntD)] := fun _ _ _ _ => rfl
      have q2 : ∀ sl X Y, kMake c_Core 2 f_Core___init__ [.cell 3, .cell 4] sl [P, X, Y, .lst (ls.map layD), .lst (js.map jntD)] = .ok (.im (coreD ls js)) [P, X, Y, .lst (ls.map layD), .lst (js.map jntD)] := fun sl X Y => by
        have q := k_makeX (sl := sl) (ce := [P, X, Y, .lst (ls.map layD), .lst (js.map jntD)]) (ls := ls) (jo := some js) (V1 := .cell 3) (V2 := .cell 4) rfl rfl okl hl900 rfl rfl
        rw [hE] at q
        exact q
      have q3 : ∀ sl X Y, kMakeQ c_Core 2 f_Core___init__ [.cell 3, .cell 4] sl [P, X, Y, .lst (ls.map layD), .lst (js.map jntD)] = .ok (.im (coreD ls js)) [P, X, Y, .lst (ls.map layD), .lst (js.map jntD)] := fun sl X Y =>
        k_makeQ (sl := sl) (ce := [P, X, Y, .lst (ls.map layD), .lst (js.map jntD)]) (ls := ls) (jo := some js) (V1 := .cell 3) (V2 := .cell 4) rfl rfl okl hl900 rfl rfl hE
      have nb : ∀ sl X Y Z, kNe (.cell 4) (.im (jntsD js)) sl [P, X, Y, Z, .lst (js.map jntD)] = .ok (.im (.bl false)) [P, X, Y, Z, .lst (js.map jntD)] := fun sl X Y Z => by
        show kEqG true _ _ _ _ = _
        rw [eq_any (d := jntsD js) (e := jntsD js) rfl rfl jnts_okD jnts_okD, eqD_refl _ 60 jnts_okD]
        rfl
      have nh : ∀ sl X Y Z, kNe (.cell 3) (.im (laysD ls)) sl [P, X, Y, .lst (ls.map layD), Z] = .ok (.im (.bl false)) [P, X, Y, .lst (ls.map layD), Z] := fun sl X Y Z => by
        show kEqG true _ _ _ _ = _
        rw [eq_any (d := laysD ls) (e := laysD ls) rfl rfl (lays_okD ok.l) (lays_okD ok.l), eqD_refl _ 60 (lays_okD ok.l)]
        rfl
      have ap : ∀ sl X Y Z d, kAppend (.cell 3) [.im d] sl [P, X, Y, .lst (ls.map layD), Z] = .ok (.im .non) [P, X, Y, .lst (ls.map layD ++ [d]), Z] := fun sl X Y Z d => by
        unfold kAppend
        simp only [List.getElem?_cons_succ, List.getElem?_cons_zero]
        rw [if_pos (by rw [List.length_map]; show _ < 16777216; omega)]
        rfl
      have ap2 : ∀ sl X Y Z d d2, kAppend (.cell 4) [.im d] sl [P, X, Y, Z, .lst ((js.map jntD).set 0 d2)] = .ok (.im .non) [P, X, Y, Z, .lst ((js.map jntD).set 0 d2 ++ [d])] := fun sl X Y Z d d2 => by
        unfold kAppend
        simp only [List.getElem?_cons_succ, List.getElem?_cons_zero]
        rw [if_pos (by rw [List.length_set, List.length_map]; show _ < 16777216; omega)]
        rfl
      have ty : ∀ X Y Z U, tyL [P, X, Y, .lst Z, U] (.cell 3) = true := fun _ _ _ _ => rfl
      have ty2 : ∀ X Y Z U, tyL [P, X, Y, U, .lst Z] (.cell 4) = true := fun _ _ _ _ => rfl
      have ix0 : ∀ d : D, ixN (ls.map layD ++ [d]).length 0 = some 0 := fun d => ixN_at (n := (ls.map layD ++ [d]).length) (k := 0) (by simp)
      have ix1 : ixN (js.map jntD).length 0 = some 0 := ixN_at (n := (js.map jntD).length) (k := 0) (by rw [List.length_map]; omega)
      obtain ⟨B, hB⟩ : ∃ B : List D, B = (js.map jntD).set 0 (D.tup [.int 8, .int 9]) ++ [D.tup [.int 1, .int 2]] := ⟨_, rfl⟩
      obtain ⟨y12, cl⟩ := core_loop (ce := [P, .dead, .dead, .lst ((ls.map layD ++ [D.tup [.str "zz", .int 5]]).set 0 (D.tup [.str "zz", .int 7])), .lst ((js.map jntD).set 0 (D.tup [.int 8, .int 9]) ++ [D.tup [.int 1, .int 2]])]) ok (some (.im S)) (some (.cell 0)) (some (.im (.int (n : Nat)))) x5 (some (.im (.lst [.str (st a), .str (st b), .str (st c)]))) (some (.im (gotD none))) (some (.im (gotD none))) (some (.cell 3)) (some (.im (.lst [coreD ls js, coreD ls js]))) (some (.cell 4)) none [coreD ls js, coreD ls js] none (fun d hd => by
        simp only [List.mem_cons, List.not_mem_nil, or_false, or_self] at hd
        exact hd)
      unfold f_law b_law
      rw [hG3, hG4, hG6, hG7, hG8]
      simp? only [-frz, -kIx, -tyL, -kListC, -kAppend, e0, e1, et, e2, e3, e4, F6, F7, e9, qq, d9, e10, w20, n20, m1, m2, m3, e11, i0, e12, fz, du, go, ng', i1, wi, g0, nm, lcC, nn, lcD, q2, q3, nb, sSetIx, ix1, ty2, ap2, nh, ty, ap, ix0, cl, finD]
      exact ⟨_, rfl⟩
end
end ZZ
set_option Elab.async false
set_option linter.all false
set_option maxRecDepth 100000
set_option maxHeartbeats 4000000
namespace ZZ
open PySem PySem.Spec L2 L2H
open ZH
/-- the law's own promise -/
def spLaw (K : PySem.W.Frag) : Sp := fun vs H Q _ => ∃ (a : Addr) (ns : List Int), vs = [.ref a] ∧ SqL K H a (ns.map V.int) ∧ ns.length ≤ 63 ∧ ∀ H', Q (.bl true) H'
theorem ints_reps {Z : Zx} {F : Hp} : ∀ ns : List Int, Reps Z F (ns.map D.int) (ns.map V.int)
  | [] => reps_nil
  | n :: ns => reps_cons (by unfold Rep; rfl) (ints_reps ns)
theorem sp_law {w : World} {K : PySem.W.Frag} {cl : Nat → Addr} {vs : List V} {H : Hp} {Q : VK} {E : XK} (h : spLaw K vs H Q E) : spD (Zz w K cl) f_law 1 vs H Q E := by
  obtain ⟨a, ns, rfl, hS, hl, k⟩ := h
  obtain ⟨ce', he⟩ := law_true ns hl
  refine ⟨[], H, [], [.im (.wl (ns.map .int))], ⟨Same.refl _, rfl, List.nodup_nil, fun k a c h1 h2 => by simp at h1⟩, ⟨_, _, rfl, ?_, rfl⟩, rfl, ?_⟩
  · unfold VRep Rep
    exact ⟨a, _, rfl, hS, ints_reps ns⟩
  · rw [he]
    intro A' F' H' x _ _ _ r
    rw [rep_bl r]
    exact k H'
theorem tx_mk {w : World} {K : PySem.W.Frag} {h : Heap} {mg : Str → Option Value} (X : K.In h) (G : h.Ns mainGlobals mg) (cZ : SaysZ fbs fnl tbs w K) : Tx PySem.Challenge.pw_siltmeet_k03_core_made w K mg (fun n => [139, 146, 172, 179, 186, 201, 225, 239, 246, 253, 258, 218, 266, 273, 280, 288, 300, 307, 314, 321, 328, 335, 342, 349, 354, 361, 368, 375, 382, 389, 396, 403, 410, 415, 420, 425, 430, 435, 53, 72, 91, 110, 232, 259].getD n 0) (fun n => [37, 56, 75, 94, 113, 291, 24].getD n 0) := {
    b_ValueError := PySem.W.mg_none_of X G (cZ.dec (p := PySem.W.nsIn K mainGlobals "ValueError" = some none) (i := 0) (j := 0) rfl rfl rfl),
    b_abs := PySem.W.mg_none_of X G (cZ.dec (p := PySem.W.nsIn K mainGlobals "abs" = some none) (i := 0) (j := 1) rfl rfl rfl),
    b_all := PySem.W.mg_none_of X G (cZ.dec (p := PySem.W.nsIn K mainGlobals "all" = some none) (i := 0) (j := 2) rfl rfl rfl),
    b_bool := PySem.W.mg_none_of X G (cZ.dec (p := PySem.W.nsIn K mainGlobals "bool" = some none) (i := 0) (j := 3) rfl rfl rfl),
    b_enumerate := PySem.W.mg_none_of X G (cZ.dec (p := PySem.W.nsIn K mainGlobals "enumerate" = some none) (i := 0) (j := 4) rfl rfl rfl),
    b_int := PySem.W.mg_none_of X G (cZ.dec (p := PySem.W.nsIn K mainGlobals "int" = some none) (i := 0) (j := 5) rfl rfl rfl),
    b_isinstance := PySem.W.mg_none_of X G (cZ.dec (p := PySem.W.nsIn K mainGlobals "isinstance" = some none) (i := 0) (j := 6) rfl rfl rfl),
    b_len := PySem.W.mg_none_of X G (cZ.dec (p := PySem.W.nsIn K mainGlobals "len" = some none) (i := 0) (j := 7) rfl rfl rfl),
    b_list := PySem.W.mg_none_of X G (cZ.dec (p := PySem.W.nsIn K mainGlobals "list" = some none) (i := 0) (j := 8) rfl rfl rfl),
    b_min := PySem.W.mg_none_of X G (cZ.dec (p := PySem.W.nsIn K mainGlobals "min" = some none) (i := 0) (j := 9) rfl rfl rfl),
    b_range := PySem.W.mg_none_of X G (cZ.dec (p := PySem.W.nsIn K mainGlobals "range" = some none) (i := 0) (j := 10) rfl rfl rfl),
    b_sum := PySem.W.mg_none_of X G (cZ.dec (p := PySem.W.nsIn K mainGlobals "sum" = some none) (i := 0) (j := 11) rfl rfl rfl),
    b_tuple := PySem.W.mg_none_of X G (cZ.dec (p := PySem.W.nsIn K mainGlobals "tuple" = some none) (i := 0) (j := 12) rfl rfl rfl),
    b_zip := PySem.W.mg_none_of X G (cZ.dec (p := PySem.W.nsIn K mainGlobals "zip" = some none) (i := 0) (j := 13) rfl rfl rfl),
    f_is_layer := (let ⟨_, F⟩ := fun_z (cZ.fns (i := 0) (d := dz_0) rfl) rfl rfl; ⟨_, F, F.binds (ps := ["layer"]) fun _ _ _ _ _ _ us hl => match us, hl with | [_], _ => rfl⟩),
    g_is_layer := PySem.W.mg_of X G (cZ.dec (p := PySem.W.nsIn K mainGlobals "is_layer" = some (some (.ref 139))) (i := 0) (j := 14) rfl rfl rfl),
    f_is_joint := (let ⟨_, F⟩ := fun_z (cZ.fns (i := 1) (d := dz_1) rfl) rfl rfl; ⟨_, F, F.binds (ps := ["joint"]) fun _ _ _ _ _ _ us hl => match us, hl with | [_], _ => rfl⟩),
    g_is_joint := PySem.W.mg_of X G (cZ.dec (p := PySem.W.nsIn K mainGlobals "is_joint" = some (some (.ref 146))) (i := 0) (j := 15) rfl rfl rfl),
    f_written_layer := (let ⟨_, F⟩ := fun_z (cZ.fns (i := 2) (d := dz_2) rfl) rfl rfl; ⟨_, F, F.binds (ps := ["layer"]) fun _ _ _ _ _ _ us hl => match us, hl with | [_], _ => rfl⟩),
    g_written_layer := PySem.W.mg_of X G (cZ.dec (p := PySem.W.nsIn K mainGlobals "written_layer" = some (some (.ref 172))) (i := 0) (j := 16) rfl rfl rfl),
    f_written_joint := (let ⟨_, F⟩ := fun_z (cZ.fns (i := 3) (d := dz_3) rfl) rfl rfl; ⟨_, F, F.binds (ps := ["joint"]) fun _ _ _ _ _ _ us hl => match us, hl with | [_], _ => rfl⟩),
    g_written_joint := PySem.W.mg_of X G (cZ.dec (p := PySem.W.nsIn K mainGlobals "written_joint" = some (some (.ref 179))) (i := 0) (j := 17) rfl rfl rfl),
    f_joined_joint := (let ⟨_, F⟩ := fun_z (cZ.fns (i := 4) (d := dz_4) rfl) rfl rfl; ⟨_, F, F.binds (ps := ["lower", "upper"]) fun _ _ _ _ _ _ us hl => match us, hl with | [_, _], _ => rfl⟩),
    g_joined_joint := PySem.W.mg_of X G (cZ.dec (p := PySem.W.nsIn K mainGlobals "joined_joint" = some (some (.ref 186))) (i := 0) (j := 18) rfl rfl rfl),
    f_Core___init__ := (let ⟨_, F⟩ := funD_z (ds := [.non]) (qs := []) (cZ.fns (i := 5) (d := dz_5) rfl) rfl (cZ.fact (i := 0) (j := 19) rfl rfl : dflZ K dz_5.dfl [.non] = true) rfl; ⟨_, F, FunD.all1 F fun _ _ _ _ _ _ _ us its h1 h2 => match us, its, h1, h2 with | [_, _, _], [_], _, _ => ⟨_, rfl, rfl⟩⟩),
    f_Core___len__ := (let ⟨_, F⟩ := fun_z (cZ.fns (i := 6) (d := dz_6) rfl) rfl rfl; ⟨_, F, F.binds (ps := ["self"]) fun _ _ _ _ _ _ us hl => match us, hl with | [_], _ => rfl⟩),
    o1_Core___len__ := ⟨(cZ.dec (p := PySem.W.findIn K (.ref 291) "__len__" = some (some (.ref 225))) (i := 0) (j := 20) rfl rfl rfl), (cZ.fact (i := 0) (j := 21) rfl rfl : PySem.W.isFn K (.ref 225) = true)⟩,
    f_Core___getitem__ := (let ⟨_, F⟩ := fun_z (cZ.fns (i := 7) (d := dz_7) rfl) rfl rfl; ⟨_, F, F.binds (ps := ["self", "k"]) fun _ _ _ _ _ _ us hl => match us, hl with | [_, _], _ => rfl⟩),
    m_Core___getitem__ := ⟨(cZ.dec (p := PySem.W.findIn K (.ref 291) "__getitem__" = some (some (.ref 239))) (i := 0) (j := 22) rfl rfl rfl), (cZ.fact (i := 0) (j := 23) rfl rfl : PySem.W.isFn K (.ref 239) = true), (cZ.fact (i := 0) (j := 24) rfl rfl : PySem.W.keepIn K (.ref 239) = true)⟩,
    f_Core___eq__ := (let ⟨_, F⟩ := fun_z (cZ.fns (i := 8) (d := dz_8) rfl) rfl rfl; ⟨_, F, F.binds (ps := ["self", "other"]) fun _ _ _ _ _ _ us hl => match us, hl with | [_, _], _ => rfl⟩),
    o_Core___eq__ := ⟨(cZ.fact (i := 1) (j := 0) rfl rfl : PySem.W.selfFirst K 291 = true), (cZ.dec (p := PySem.W.findIn K (.ref 291) "__eq__" = some (some (.ref 246))) (i := 1) (j := 1) rfl rfl rfl), (cZ.fact (i := 1) (j := 2) rfl rfl : PySem.W.isFn K (.ref 246) = true)⟩,
    f_Core_joint := (let ⟨_, F⟩ := fun_z (cZ.fns (i := 9) (d := dz_9) rfl) rfl rfl; ⟨_, F, F.binds (ps := ["self", "k"]) fun _ _ _ _ _ _ us hl => match us, hl with | [_, _], _ => rfl⟩),
    m_Core_joint := ⟨(cZ.dec (p := PySem.W.findIn K (.ref 291) "joint" = some (some (.ref 253))) (i := 1) (j := 3) rfl rfl rfl), (cZ.fact (i := 1) (j := 4) rfl rfl : PySem.W.isFn K (.ref 253) = true), (cZ.fact (i := 1) (j := 5) rfl rfl : PySem.W.keepIn K (.ref 253) = true)⟩,
    f_Core_thickness := (let ⟨_, F⟩ := fun_z (cZ.fns (i := 10) (d := dz_10) rfl) rfl rfl; ⟨_, F, F.binds (ps := ["self"]) fun _ _ _ _ _ _ us hl => match us, hl with | [_], _ => rfl⟩),
    p_Core_thickness := ⟨(cZ.dec (p := PySem.W.findIn K (.ref 291) "thickness" = some (some (.ref 259))) (i := 1) (j := 6) rfl rfl rfl), (cZ.dec (p := PySem.W.specialIn K (.ref 259) "__get__" = some (some (.builtin "property.__get__"))) (i := 1) (j := 7) rfl rfl rfl), (cZ.dec (p := PySem.W.takesIn K (.ref 259) = some true) (i := 1) (j := 8) rfl rfl rfl), (recB_ok (cZ.fact (i := 1) (j := 9) rfl rfl : recB K 259 "property" 258 = true))⟩,
    f_Core_written := (let ⟨_, F⟩ := fun_z (cZ.fns (i := 11) (d := dz_11) rfl) rfl rfl; ⟨_, F, F.binds (ps := ["self"]) fun _ _ _ _ _ _ us hl => match us, hl with | [_], _ => rfl⟩),
    m_Core_written := ⟨(cZ.dec (p := PySem.W.findIn K (.ref 291) "written" = some (some (.ref 218))) (i := 1) (j := 10) rfl rfl rfl), (cZ.fact (i := 1) (j := 11) rfl rfl : PySem.W.isFn K (.ref 218) = true), (cZ.fact (i := 1) (j := 12) rfl rfl : PySem.W.keepIn K (.ref 218) = true)⟩,
    f_Core___add__ := (let ⟨_, F⟩ := fun_z (cZ.fns (i := 12) (d := dz_12) rfl) rfl rfl; ⟨_, F, F.binds (ps := ["self", "other"]) fun _ _ _ _ _ _ us hl => match us, hl with | [_, _], _ => rfl⟩),
    o_Core___add__ := ⟨(cZ.fact (i := 1) (j := 0) rfl rfl : PySem.W.selfFirst K 291 = true), (cZ.dec (p := PySem.W.findIn K (.ref 291) "__add__" = some (some (.ref 266))) (i := 1) (j := 13) rfl rfl rfl), (cZ.fact (i := 1) (j := 14) rfl rfl : PySem.W.isFn K (.ref 266) = true)⟩,
    f_Core___invert__ := (let ⟨_, F⟩ := fun_z (cZ.fns (i := 13) (d := dz_13) rfl) rfl rfl; ⟨_, F, F.binds (ps := ["self"]) fun _ _ _ _ _ _ us hl => match us, hl with | [_], _ => rfl⟩),
    o1_Core___invert__ := ⟨(cZ.dec (p := PySem.W.findIn K (.ref 291) "__invert__" = some (some (.ref 273))) (i := 1) (j := 15) rfl rfl rfl), (cZ.fact (i := 1) (j := 16) rfl rfl : PySem.W.isFn K (.ref 273) = true)⟩,
    f_Core_turned := (let ⟨_, F⟩ := fun_z (cZ.fns (i := 14) (d := dz_14) rfl) rfl rfl; ⟨_, F, F.binds (ps := ["self", "first", "last"]) fun _ _ _ _ _ _ us hl => match us, hl with | [_, _, _], _ => rfl⟩),
    m_Core_turned := ⟨(cZ.dec (p := PySem.W.findIn K (.ref 291) "turned" = some (some (.ref 280))) (i := 1) (j := 17) rfl rfl rfl), (cZ.fact (i := 1) (j := 18) rfl rfl : PySem.W.isFn K (.ref 280) = true), (cZ.fact (i := 1) (j := 19) rfl rfl : PySem.W.keepIn K (.ref 280) = true)⟩,
    f_Core_narrowed := (funD_z (ds := []) (qs := [("least", .int 0), ("most", .non)]) (cZ.fns (i := 15) (d := dz_15) rfl) rfl rfl (cZ.fact (i := 1) (j := 20) rfl rfl : kwdZ K dz_15.kwd [("least", .int 0), ("most", .non)] = true)),
    m_Core_narrowed := ⟨(cZ.dec (p := PySem.W.findIn K (.ref 291) "narrowed" = some (some (.ref 288))) (i := 1) (j := 21) rfl rfl rfl), (cZ.fact (i := 1) (j := 22) rfl rfl : PySem.W.isFn K (.ref 288) = true), (cZ.fact (i := 1) (j := 23) rfl rfl : PySem.W.keepIn K (.ref 288) = true)⟩,
    f_bare_core := (funS_z (cZ.fns (i := 16) (d := dz_16) rfl) rfl rfl rfl rfl rfl fun _ _ _ _ _ _ => bind_star0 (B := fun l => bindArgs _ ⟨l, []⟩) rfl (fun _ _ => rfl)),
    g_bare_core := PySem.W.mg_of X G (cZ.dec (p := PySem.W.nsIn K mainGlobals "bare_core" = some (some (.ref 300))) (i := 1) (j := 24) rfl rfl rfl),
    f__law_mix := (let ⟨_, F⟩ := fun_z (cZ.fns (i := 17) (d := dz_17) rfl) rfl rfl; ⟨_, F, F.binds (ps := ["_law_cell", "_law_turn"]) fun _ _ _ _ _ _ us hl => match us, hl with | [_, _], _ => rfl⟩),
    g__law_mix := PySem.W.mg_of X G (cZ.dec (p := PySem.W.nsIn K mainGlobals "_law_mix" = some (some (.ref 307))) (i := 2) (j := 0) rfl rfl rfl),
    f__law_pool := (let ⟨_, F⟩ := fun_z (cZ.fns (i := 18) (d := dz_18) rfl) rfl rfl; ⟨_, F, F.binds (ps := ["_law_script", "_law_many_here"]) fun _ _ _ _ _ _ us hl => match us, hl with | [_, _], _ => rfl⟩),
    g__law_pool := PySem.W.mg_of X G (cZ.dec (p := PySem.W.nsIn K mainGlobals "_law_pool" = some (some (.ref 314))) (i := 2) (j := 1) rfl rfl rfl),
    f__law_draw := (let ⟨_, F⟩ := fun_z (cZ.fns (i := 19) (d := dz_19) rfl) rfl rfl; ⟨_, F, F.binds (ps := ["_law_pool_here", "_law_bound"]) fun _ _ _ _ _ _ us hl => match us, hl with | [_, _], _ => rfl⟩),
    g__law_draw := PySem.W.mg_of X G (cZ.dec (p := PySem.W.nsIn K mainGlobals "_law_draw" = some (some (.ref 321))) (i := 2) (j := 2) rfl rfl rfl),
    f__law_number := (let ⟨_, F⟩ := fun_z (cZ.fns (i := 20) (d := dz_20) rfl) rfl rfl; ⟨_, F, F.binds (ps := ["_law_pool_here"]) fun _ _ _ _ _ _ us hl => match us, hl with | [_], _ => rfl⟩),
    g__law_number := PySem.W.mg_of X G (cZ.dec (p := PySem.W.nsIn K mainGlobals "_law_number" = some (some (.ref 328))) (i := 2) (j := 3) rfl rfl rfl),
    f__law_word := (let ⟨_, F⟩ := fun_z (cZ.fns (i := 21) (d := dz_21) rfl) rfl rfl; ⟨_, F, F.binds (ps := ["_law_pool_here"]) fun _ _ _ _ _ _ us hl => match us, hl with | [_], _ => rfl⟩),
    g__law_word := PySem.W.mg_of X G (cZ.dec (p := PySem.W.nsIn K mainGlobals "_law_word" = some (some (.ref 335))) (i := 2) (j := 4) rfl rfl rfl),
    f__law_bounds := (let ⟨_, F⟩ := fun_z (cZ.fns (i := 22) (d := dz_22) rfl) rfl rfl; ⟨_, F, F.binds (ps := ["_law_pool_here"]) fun _ _ _ _ _ _ us hl => match us, hl with | [_], _ => rfl⟩),
    g__law_bounds := PySem.W.mg_of X G (cZ.dec (p := PySem.W.nsIn K mainGlobals "_law_bounds" = some (some (.ref 342))) (i := 2) (j := 5) rfl rfl rfl),
    f__law_whole := (let ⟨_, F⟩ := fun_z (cZ.fns (i := 23) (d := dz_23) rfl) rfl rfl; ⟨_, F, F.binds (ps := ["_law_number_here"]) fun _ _ _ _ _ _ us hl => match us, hl with | [_], _ => rfl⟩),
    g__law_whole := PySem.W.mg_of X G (cZ.dec (p := PySem.W.nsIn K mainGlobals "_law_whole" = some (some (.ref 349))) (i := 2) (j := 6) rfl rfl rfl),
    f__law_same := (let ⟨_, F⟩ := fun_z (cZ.fns (i := 24) (d := dz_24) rfl) rfl rfl; ⟨_, F, F.binds (ps := ["_law_core", "_law_layers", "_law_joints"]) fun _ _ _ _ _ _ us hl => match us, hl with | [_, _, _], _ => rfl⟩),
    g__law_same := PySem.W.mg_of X G (cZ.dec (p := PySem.W.nsIn K mainGlobals "_law_same" = some (some (.ref 354))) (i := 2) (j := 7) rfl rfl rfl),
    f__law_odd_layer := (let ⟨_, F⟩ := fun_z (cZ.fns (i := 25) (d := dz_25) rfl) rfl rfl; ⟨_, F, F.binds (ps := ["_law_number_here"]) fun _ _ _ _ _ _ us hl => match us, hl with | [_], _ => rfl⟩),
    g__law_odd_layer := PySem.W.mg_of X G (cZ.dec (p := PySem.W.nsIn K mainGlobals "_law_odd_layer" = some (some (.ref 361))) (i := 2) (j := 8) rfl rfl rfl),
    f__law_odd_joint := (let ⟨_, F⟩ := fun_z (cZ.fns (i := 26) (d := dz_26) rfl) rfl rfl; ⟨_, F, F.binds (ps := ["_law_number_here"]) fun _ _ _ _ _ _ us hl => match us, hl with | [_], _ => rfl⟩),
    g__law_odd_joint := PySem.W.mg_of X G (cZ.dec (p := PySem.W.nsIn K mainGlobals "_law_odd_joint" = some (some (.ref 368))) (i := 2) (j := 9) rfl rfl rfl),
    f__law_valid := (let ⟨_, F⟩ := fun_z (cZ.fns (i := 27) (d := dz_27) rfl) rfl rfl; ⟨_, F, F.binds (ps := ["_law_layer"]) fun _ _ _ _ _ _ us hl => match us, hl with | [_], _ => rfl⟩),
    g__law_valid := PySem.W.mg_of X G (cZ.dec (p := PySem.W.nsIn K mainGlobals "_law_valid" = some (some (.ref 375))) (i := 2) (j := 10) rfl rfl rfl),
    f__law_due := (let ⟨_, F⟩ := fun_z (cZ.fns (i := 28) (d := dz_28) rfl) rfl rfl; ⟨_, F, F.binds (ps := ["_law_layers", "_law_joints"]) fun _ _ _ _ _ _ us hl => match us, hl with | [_, _], _ => rfl⟩),
    g__law_due := PySem.W.mg_of X G (cZ.dec (p := PySem.W.nsIn K mainGlobals "_law_due" = some (some (.ref 382))) (i := 2) (j := 11) rfl rfl rfl),
    f__law_got := (let ⟨_, F⟩ := fun_z (cZ.fns (i := 29) (d := dz_29) rfl) rfl rfl; ⟨_, F, F.binds (ps := ["_law_layers", "_law_joints"]) fun _ _ _ _ _ _ us hl => match us, hl with | [_, _], _ => rfl⟩),
    g__law_got := PySem.W.mg_of X G (cZ.dec (p := PySem.W.nsIn K mainGlobals "_law_got" = some (some (.ref 389))) (i := 2) (j := 12) rfl rfl rfl),
    f__law_base := (let ⟨_, F⟩ := fun_z (cZ.fns (i := 30) (d := dz_30) rfl) rfl rfl; ⟨_, F, F.binds (ps := ["_law_layers", "_law_joints", "_law_word_here"]) fun _ _ _ _ _ _ us hl => match us, hl with | [_, _, _], _ => rfl⟩),
    g__law_base := PySem.W.mg_of X G (cZ.dec (p := PySem.W.nsIn K mainGlobals "_law_base" = some (some (.ref 396))) (i := 2) (j := 13) rfl rfl rfl),
    f__law_char := (let ⟨_, F⟩ := fun_z (cZ.fns (i := 31) (d := dz_31) rfl) rfl rfl; ⟨_, F, F.binds (ps := ["_law_number_here"]) fun _ _ _ _ _ _ us hl => match us, hl with | [_], _ => rfl⟩),
    g__law_char := PySem.W.mg_of X G (cZ.dec (p := PySem.W.nsIn K mainGlobals "_law_char" = some (some (.ref 403))) (i := 2) (j := 14) rfl rfl rfl),
    f__law_signs := (let ⟨_, F⟩ := fun_z (cZ.fns (i := 32) (d := dz_32) rfl) rfl rfl; ⟨_, F, F.binds (ps := ["_law_pool_here", "_law_kind"]) fun _ _ _ _ _ _ us hl => match us, hl with | [_, _], _ => rfl⟩),
    g__law_signs := PySem.W.mg_of X G (cZ.dec (p := PySem.W.nsIn K mainGlobals "_law_signs" = some (some (.ref 410))) (i := 2) (j := 15) rfl rfl rfl),
    f__law_counts := (let ⟨_, F⟩ := fun_z (cZ.fns (i := 33) (d := dz_33) rfl) rfl rfl; ⟨_, F, F.binds (ps := ["_law_pool_here", "_law_kinds"]) fun _ _ _ _ _ _ us hl => match us, hl with | [_, _], _ => rfl⟩),
    g__law_counts := PySem.W.mg_of X G (cZ.dec (p := PySem.W.nsIn K mainGlobals "_law_counts" = some (some (.ref 415))) (i := 2) (j := 16) rfl rfl rfl),
    f__law_many := (let ⟨_, F⟩ := fun_z (cZ.fns (i := 34) (d := dz_34) rfl) rfl rfl; ⟨_, F, F.binds (ps := ["_law_kinds"]) fun _ _ _ _ _ _ us hl => match us, hl with | [_], _ => rfl⟩),
    g__law_many := PySem.W.mg_of X G (cZ.dec (p := PySem.W.nsIn K mainGlobals "_law_many" = some (some (.ref 420))) (i := 2) (j := 17) rfl rfl rfl),
    f__law_open := (let ⟨_, F⟩ := fun_z (cZ.fns (i := 35) (d := dz_35) rfl) rfl rfl; ⟨_, F, F.binds (ps := ["_law_kinds"]) fun _ _ _ _ _ _ us hl => match us, hl with | [_], _ => rfl⟩),
    g__law_open := PySem.W.mg_of X G (cZ.dec (p := PySem.W.nsIn K mainGlobals "_law_open" = some (some (.ref 425))) (i := 2) (j := 18) rfl rfl rfl),
    f__law_bare := (let ⟨_, F⟩ := fun_z (cZ.fns (i := 36) (d := dz_36) rfl) rfl rfl; ⟨_, F, F.binds (ps := ["_law_kinds"]) fun _ _ _ _ _ _ us hl => match us, hl with | [_], _ => rfl⟩),
    g__law_bare := PySem.W.mg_of X G (cZ.dec (p := PySem.W.nsIn K mainGlobals "_law_bare" = some (some (.ref 430))) (i := 2) (j := 19) rfl rfl rfl),
    f_law := (let ⟨_, F⟩ := fun_z (cZ.fns (i := 37) (d := dz_37) rfl) rfl rfl; ⟨_, F, F.binds (ps := ["_law_script"]) fun _ _ _ _ _ _ us hl => match us, hl with | [_], _ => rfl⟩),
    g_law := PySem.W.mg_of X G (cZ.dec (p := PySem.W.nsIn K mainGlobals "law" = some (some (.ref 435))) (i := 2) (j := 20) rfl rfl rfl),
    g_Core := PySem.W.mg_of X G (cZ.dec (p := PySem.W.nsIn K mainGlobals "Core" = some (some (.ref 291))) (i := 2) (j := 21) rfl rfl rfl),
    k_Core := ⟨⟨(cZ.fact (i := 2) (j := 22) rfl rfl : PySem.W.plainGet K 291 Str.empty = true), (cZ.fact (i := 2) (j := 23) rfl rfl : PySem.W.hasDictIn K 291 = true), (cZ.fact (i := 2) (j := 24) rfl rfl : PySem.W.plainOver K 291 = true), (cZ.dec (p := PySem.W.findIn K (.ref 291) "__setattr__" = some (some (.builtin "object.__setattr__"))) (i := 3) (j := 0) rfl rfl rfl)⟩, by show (flds 5).Nodup; decide +kernel⟩,
    na_Core_layers := (cZ.dec (p := PySem.W.findIn K (.ref 291) "layers" = some none) (i := 3) (j := 1) rfl rfl rfl),
    na_Core_joints := (cZ.dec (p := PySem.W.findIn K (.ref 291) "joints" = some none) (i := 3) (j := 2) rfl rfl rfl),
    mk_Core := ⟨(cZ.fact (i := 3) (j := 3) rfl rfl : PySem.W.makesIn K 291 = true), (cZ.dec (p := PySem.W.findIn K (.ref 291) "__init__" = some (some (.ref 201))) (i := 3) (j := 4) rfl rfl rfl), (cZ.fact (i := 3) (j := 5) rfl rfl : PySem.W.isFn K (.ref 201) = true), (cZ.fact (i := 3) (j := 6) rfl rfl : PySem.W.keepIn K (.ref 291) = true)⟩,
    g_SiltError := PySem.W.mg_of X G (cZ.dec (p := PySem.W.nsIn K mainGlobals "SiltError" = some (some (.ref 24))) (i := 3) (j := 7) rfl rfl rfl),
    gs_LETTERS := (strB_ok X G (cZ.fact (i := 3) (j := 8) rfl rfl : strB K "LETTERS" "abcdefghijklmnopqrstuvwxyz" = true)),
    gi_Core := ⟨(cZ.dec (p := PySem.W.findIn K (.ref 291) "__getitem__" = some (some (.ref 239))) (i := 3) (j := 9) rfl rfl rfl), (cZ.fact (i := 3) (j := 10) rfl rfl : PySem.W.isFn K (.ref 239) = true), (cZ.fact (i := 3) (j := 11) rfl rfl : PySem.W.fnIn K 239 = true)⟩,
    cr_Core := ⟨(cZ.fact (i := 3) (j := 12) rfl rfl : PySem.W.readsIn K 291 (.type "type") = true), (cZ.dec (p := PySem.W.specialIn K (.ref 291) "__getattribute__" = some (some (.builtin "type.__getattribute__"))) (i := 3) (j := 13) rfl rfl rfl)⟩,
    cv_Core_MOST := (let ⟨_, h, t, e⟩ := cvB_ok (d := .int 20) (cZ.fact (i := 3) (j := 14) rfl rfl : cvB K 291 "MOST" (.int 20) = true); ⟨t, e ▸ h, ⟨_, rfl⟩⟩),
    f_Core___iter__ := (let ⟨_, F⟩ := fun_z (cZ.fns (i := 38) (d := dz_38) rfl) rfl rfl; ⟨_, F, F.binds (ps := ["self"]) fun _ _ _ _ _ _ us hl => match us, hl with | [_], _ => rfl⟩),
    b_iter := PySem.W.mg_none_of X G (cZ.dec (p := PySem.W.nsIn K mainGlobals "iter" = some none) (i := 3) (j := 15) rfl rfl rfl),
    it_Core := ⟨(cZ.dec (p := PySem.W.findIn K (.ref 291) "__iter__" = some (some (.ref 232))) (i := 3) (j := 16) rfl rfl rfl), (cZ.fact (i := 3) (j := 17) rfl rfl : PySem.W.isFn K (.ref 232) = true)⟩,
    g_BadCore := PySem.W.mg_of X G (cZ.dec (p := PySem.W.nsIn K mainGlobals "BadCore" = some (some (.ref 37))) (i := 3) (j := 18) rfl rfl rfl),
    xt_BadCore := ⟨(cZ.fact (i := 3) (j := 22) rfl rfl : PySem.W.excIn K 37 [.type "ValueError", .type "Exception", .type "BaseException", .type "object"] "ValueError.__new__" = true), (cZ.fact (i := 3) (j := 19) rfl rfl : PySem.W.keepIn K (.ref 37) = true), (cZ.dec (p := PySem.W.subIn K (.ref 37) (.type "BaseException") = some true) (i := 3) (j := 20) rfl rfl rfl), (cZ.dec (p := PySem.W.typeIn K (.ref 37) = some (.type "type")) (i := 3) (j := 21) rfl rfl rfl)⟩,
    g_BadLayer := PySem.W.mg_of X G (cZ.dec (p := PySem.W.nsIn K mainGlobals "BadLayer" = some (some (.ref 56))) (i := 3) (j := 23) rfl rfl rfl),
    o_BadLayer := ⟨excB_ok (cZ.fact (i := 4) (j := 3) rfl rfl : excB K 56 = true), (cZ.dec (p := PySem.W.findIn K (.ref 56) "__setattr__" = some (some (.builtin "object.__setattr__"))) (i := 4) (j := 2) rfl rfl rfl), (cZ.dec (p := PySem.W.subIn K (.ref 56) (.type "BaseException") = some true) (i := 4) (j := 0) rfl rfl rfl), (cZ.dec (p := PySem.W.typeIn K (.ref 56) = some (.type "type")) (i := 4) (j := 1) rfl rfl rfl), (cZ.fact (i := 3) (j := 24) rfl rfl : PySem.W.keepIn K (.ref 56) = true)⟩,
    i_BadLayer := (cZ.dec (p := PySem.W.findIn K (.ref 56) "__init__" = some (some (.ref 53))) (i := 4) (j := 4) rfl rfl rfl),
    t_BadLayer := (cZ.dec (p := PySem.W.typeIn K (.ref 53) = some (.type "function")) (i := 4) (j := 5) rfl rfl rfl),
    nx_BadLayer_index := (cZ.dec (p := PySem.W.findIn K (.ref 56) "index" = some none) (i := 4) (j := 6) rfl rfl rfl),
    f_BadLayer___init__ := (let ⟨_, F⟩ := fun_z (cZ.fns (i := 39) (d := dz_39) rfl) rfl rfl; ⟨_, F, F.binds (ps := ["self", "index"]) fun _ _ _ _ _ _ us hl => match us, hl with | [_, _], _ => rfl⟩),
    g_BadJoint := PySem.W.mg_of X G (cZ.dec (p := PySem.W.nsIn K mainGlobals "BadJoint" = some (some (.ref 75))) (i := 4) (j := 7) rfl rfl rfl),
    o_BadJoint := ⟨excB_ok (cZ.fact (i := 4) (j := 12) rfl rfl : excB K 75 = true), (cZ.dec (p := PySem.W.findIn K (.ref 75) "__setattr__" = some (some (.builtin "object.__setattr__"))) (i := 4) (j := 11) rfl rfl rfl), (cZ.dec (p := PySem.W.subIn K (.ref 75) (.type "BaseException") = some true) (i := 4) (j := 9) rfl rfl rfl), (cZ.dec (p := PySem.W.typeIn K (.ref 75) = some (.type "type")) (i := 4) (j := 10) rfl rfl rfl), (cZ.fact (i := 4) (j := 8) rfl rfl : PySem.W.keepIn K (.ref 75) = true)⟩,
    i_BadJoint := (cZ.dec (p := PySem.W.findIn K (.ref 75) "__init__" = some (some (.ref 72))) (i := 4) (j := 13) rfl rfl rfl),
    t_BadJoint := (cZ.dec (p := PySem.W.typeIn K (.ref 72) = some (.type "function")) (i := 4) (j := 14) rfl rfl rfl),
    nx_BadJoint_index := (cZ.dec (p := PySem.W.findIn K (.ref 75) "index" = some none) (i := 4) (j := 15) rfl rfl rfl),
    f_BadJoint___init__ := (let ⟨_, F⟩ := fun_z (cZ.fns (i := 40) (d := dz_40) rfl) rfl rfl; ⟨_, F, F.binds (ps := ["self", "index"]) fun _ _ _ _ _ _ us hl => match us, hl with | [_, _], _ => rfl⟩),
    g_NoLayer := PySem.W.mg_of X G (cZ.dec (p := PySem.W.nsIn K mainGlobals "NoLayer" = some (some (.ref 94))) (i := 4) (j := 16) rfl rfl rfl),
    o_NoLayer := ⟨excB_ok (cZ.fact (i := 4) (j := 21) rfl rfl : excB K 94 = true), (cZ.dec (p := PySem.W.findIn K (.ref 94) "__setattr__" = some (some (.builtin "object.__setattr__"))) (i := 4) (j := 20) rfl rfl rfl), (cZ.dec (p := PySem.W.subIn K (.ref 94) (.type "BaseException") = some true) (i := 4) (j := 18) rfl rfl rfl), (cZ.dec (p := PySem.W.typeIn K (.ref 94) = some (.type "type")) (i := 4) (j := 19) rfl rfl rfl), (cZ.fact (i := 4) (j := 17) rfl rfl : PySem.W.keepIn K (.ref 94) = true)⟩,
    i_NoLayer := (cZ.dec (p := PySem.W.findIn K (.ref 94) "__init__" = some (some (.ref 91))) (i := 4) (j := 22) rfl rfl rfl),
    t_NoLayer := (cZ.dec (p := PySem.W.typeIn K (.ref 91) = some (.type "function")) (i := 4) (j := 23) rfl rfl rfl),
    nx_NoLayer_index := (cZ.dec (p := PySem.W.findIn K (.ref 94) "index" = some none) (i := 4) (j := 24) rfl rfl rfl),
    f_NoLayer___init__ := (let ⟨_, F⟩ := fun_z (cZ.fns (i := 41) (d := dz_41) rfl) rfl rfl; ⟨_, F, F.binds (ps := ["self", "index"]) fun _ _ _ _ _ _ us hl => match us, hl with | [_, _], _ => rfl⟩),
    g_NoJoint := PySem.W.mg_of X G (cZ.dec (p := PySem.W.nsIn K mainGlobals "NoJoint" = some (some (.ref 113))) (i := 5) (j := 0) rfl rfl rfl),
    o_NoJoint := ⟨excB_ok (cZ.fact (i := 5) (j := 5) rfl rfl : excB K 113 = true), (cZ.dec (p := PySem.W.findIn K (.ref 113) "__setattr__" = some (some (.builtin "object.__setattr__"))) (i := 5) (j := 4) rfl rfl rfl), (cZ.dec (p := PySem.W.subIn K (.ref 113) (.type "BaseException") = some true) (i := 5) (j := 2) rfl rfl rfl), (cZ.dec (p := PySem.W.typeIn K (.ref 113) = some (.type "type")) (i := 5) (j := 3) rfl rfl rfl), (cZ.fact (i := 5) (j := 1) rfl rfl : PySem.W.keepIn K (.ref 113) = true)⟩,
    i_NoJoint := (cZ.dec (p := PySem.W.findIn K (.ref 113) "__init__" = some (some (.ref 110))) (i := 5) (j := 6) rfl rfl rfl),
    t_NoJoint := (cZ.dec (p := PySem.W.typeIn K (.ref 110) = some (.type "function")) (i := 5) (j := 7) rfl rfl rfl),
    nx_NoJoint_index := (cZ.dec (p := PySem.W.findIn K (.ref 113) "index" = some none) (i := 5) (j := 8) rfl rfl rfl),
    f_NoJoint___init__ := (let ⟨_, F⟩ := fun_z (cZ.fns (i := 42) (d := dz_42) rfl) rfl rfl; ⟨_, F, F.binds (ps := ["self", "index"]) fun _ _ _ _ _ _ us hl => match us, hl with | [_, _], _ => rfl⟩),
    xi := fun c hc => match c, hc with | 0, _ => ⟨(cZ.dec (p := PySem.W.findIn K (.ref 37) "__getattribute__" = some (some (.builtin "BaseException.__getattribute__"))) (i := 5) (j := 11) rfl rfl rfl), (cZ.dec (p := PySem.W.findIn K (.ref 37) "__getattr__" = some none) (i := 5) (j := 12) rfl rfl rfl), (cZ.dec (p := PySem.W.subIn K (.ref 37) (.type "BaseException") = some true) (i := 3) (j := 20) rfl rfl rfl), (cZ.fact (i := 5) (j := 13) rfl rfl : PySem.W.hasDictIn K 37 = true), (cZ.dec (p := PySem.W.findIn K (.ref 37) "__class__" = some (some (.builtin "object.__class__"))) (i := 5) (j := 14) rfl rfl rfl), (cZ.dec (p := PySem.W.specialIn K (.builtin "object.__class__") "__get__" = some (some (.builtin "getset_descriptor.__get__"))) (i := 5) (j := 9) rfl rfl rfl), (cZ.dec (p := PySem.W.takesIn K (.builtin "object.__class__") = some true) (i := 5) (j := 10) rfl rfl rfl), (cZ.dec (p := PySem.W.mroIn K 37 (.type "object") = some true) (i := 5) (j := 15) rfl rfl rfl)⟩ | 1, _ => ⟨(cZ.dec (p := PySem.W.findIn K (.ref 56) "__getattribute__" = some (some (.builtin "BaseException.__getattribute__"))) (i := 5) (j := 16) rfl rfl rfl), (cZ.dec (p := PySem.W.findIn K (.ref 56) "__getattr__" = some none) (i := 5) (j := 17) rfl rfl rfl), (cZ.dec (p := PySem.W.subIn K (.ref 56) (.type "BaseException") = some true) (i := 4) (j := 0) rfl rfl rfl), (cZ.fact (i := 5) (j := 18) rfl rfl : PySem.W.hasDictIn K 56 = true), (cZ.dec (p := PySem.W.findIn K (.ref 56) "__class__" = some (some (.builtin "object.__class__"))) (i := 5) (j := 19) rfl rfl rfl), (cZ.dec (p := PySem.W.specialIn K (.builtin "object.__class__") "__get__" = some (some (.builtin "getset_descriptor.__get__"))) (i := 5) (j := 9) rfl rfl rfl), (cZ.dec (p := PySem.W.takesIn K (.builtin "object.__class__") = some true) (i := 5) (j := 10) rfl rfl rfl), (cZ.dec (p := PySem.W.mroIn K 56 (.type "object") = some true) (i := 5) (j := 20) rfl rfl rfl)⟩ | 2, _ => ⟨(cZ.dec (p := PySem.W.findIn K (.ref 75) "__getattribute__" = some (some (.builtin "BaseException.__getattribute__"))) (i := 5) (j := 21) rfl rfl rfl), (cZ.dec (p := PySem.W.findIn K (.ref 75) "__getattr__" = some none) (i := 5) (j := 22) rfl rfl rfl), (cZ.dec (p := PySem.W.subIn K (.ref 75) (.type "BaseException") = some true) (i := 4) (j := 9) rfl rfl rfl), (cZ.fact (i := 5) (j := 23) rfl rfl : PySem.W.hasDictIn K 75 = true), (cZ.dec (p := PySem.W.findIn K (.ref 75) "__class__" = some (some (.builtin "object.__class__"))) (i := 5) (j := 24) rfl rfl rfl), (cZ.dec (p := PySem.W.specialIn K (.builtin "object.__class__") "__get__" = some (some (.builtin "getset_descriptor.__get__"))) (i := 5) (j := 9) rfl rfl rfl), (cZ.dec (p := PySem.W.takesIn K (.builtin "object.__class__") = some true) (i := 5) (j := 10) rfl rfl rfl), (cZ.dec (p := PySem.W.mroIn K 75 (.type "object") = some true) (i := 6) (j := 0) rfl rfl rfl)⟩ | 3, _ => ⟨(cZ.dec (p := PySem.W.findIn K (.ref 94) "__getattribute__" = some (some (.builtin "BaseException.__getattribute__"))) (i := 6) (j := 1) rfl rfl rfl), (cZ.dec (p := PySem.W.findIn K (.ref 94) "__getattr__" = some none) (i := 6) (j := 2) rfl rfl rfl), (cZ.dec (p := PySem.W.subIn K (.ref 94) (.type "BaseException") = some true) (i := 4) (j := 18) rfl rfl rfl), (cZ.fact (i := 6) (j := 3) rfl rfl : PySem.W.hasDictIn K 94 = true), (cZ.dec (p := PySem.W.findIn K (.ref 94) "__class__" = some (some (.builtin "object.__class__"))) (i := 6) (j := 4) rfl rfl rfl), (cZ.dec (p := PySem.W.specialIn K (.builtin "object.__class__") "__get__" = some (some (.builtin "getset_descriptor.__get__"))) (i := 5) (j := 9) rfl rfl rfl), (cZ.dec (p := PySem.W.takesIn K (.builtin "object.__class__") = some true) (i := 5) (j := 10) rfl rfl rfl), (cZ.dec (p := PySem.W.mroIn K 94 (.type "object") = some true) (i := 6) (j := 5) rfl rfl rfl)⟩ | 4, _ => ⟨(cZ.dec (p := PySem.W.findIn K (.ref 113) "__getattribute__" = some (some (.builtin "BaseException.__getattribute__"))) (i := 6) (j := 6) rfl rfl rfl), (cZ.dec (p := PySem.W.findIn K (.ref 113) "__getattr__" = some none) (i := 6) (j := 7) rfl rfl rfl), (cZ.dec (p := PySem.W.subIn K (.ref 113) (.type "BaseException") = some true) (i := 5) (j := 2) rfl rfl rfl), (cZ.fact (i := 6) (j := 8) rfl rfl : PySem.W.hasDictIn K 113 = true), (cZ.dec (p := PySem.W.findIn K (.ref 113) "__class__" = some (some (.builtin "object.__class__"))) (i := 6) (j := 9) rfl rfl rfl), (cZ.dec (p := PySem.W.specialIn K (.builtin "object.__class__") "__get__" = some (some (.builtin "getset_descriptor.__get__"))) (i := 5) (j := 9) rfl rfl rfl), (cZ.dec (p := PySem.W.takesIn K (.builtin "object.__class__") = some true) (i := 5) (j := 10) rfl rfl rfl), (cZ.dec (p := PySem.W.mroIn K 113 (.type "object") = some true) (i := 6) (j := 10) rfl rfl rfl)⟩ | n + 5, h => absurd h (by omega),
    xe_BadCore := fun c hc => match c, hc with | 0, _ => (cZ.dec (p := PySem.W.exmOne K (.ref 37) (.ref 37) = some true) (i := 6) (j := 11) rfl rfl rfl) | 1, _ => (cZ.dec (p := PySem.W.exmOne K (.ref 56) (.ref 37) = some true) (i := 6) (j := 12) rfl rfl rfl) | 2, _ => (cZ.dec (p := PySem.W.exmOne K (.ref 75) (.ref 37) = some true) (i := 6) (j := 13) rfl rfl rfl) | 3, _ => (cZ.dec (p := PySem.W.exmOne K (.ref 94) (.ref 37) = some false) (i := 6) (j := 14) rfl rfl rfl) | 4, _ => (cZ.dec (p := PySem.W.exmOne K (.ref 113) (.ref 37) = some false) (i := 6) (j := 15) rfl rfl rfl) | n + 5, h => absurd h (by omega),
    xe_BadJoint := fun c hc => match c, hc with | 0, _ => (cZ.dec (p := PySem.W.exmOne K (.ref 37) (.ref 75) = some false) (i := 6) (j := 16) rfl rfl rfl) | 1, _ => (cZ.dec (p := PySem.W.exmOne K (.ref 56) (.ref 75) = some false) (i := 6) (j := 17) rfl rfl rfl) | 2, _ => (cZ.dec (p := PySem.W.exmOne K (.ref 75) (.ref 75) = some true) (i := 6) (j := 18) rfl rfl rfl) | 3, _ => (cZ.dec (p := PySem.W.exmOne K (.ref 94) (.ref 75) = some false) (i := 6) (j := 19) rfl rfl rfl) | 4, _ => (cZ.dec (p := PySem.W.exmOne K (.ref 113) (.ref 75) = some false) (i := 6) (j := 20) rfl rfl rfl) | n + 5, h => absurd h (by omega),
    xe_BadLayer := fun c hc => match c, hc with | 0, _ => (cZ.dec (p := PySem.W.exmOne K (.ref 37) (.ref 56) = some false) (i := 6) (j := 21) rfl rfl rfl) | 1, _ => (cZ.dec (p := PySem.W.exmOne K (.ref 56) (.ref 56) = some true) (i := 6) (j := 22) rfl rfl rfl) | 2, _ => (cZ.dec (p := PySem.W.exmOne K (.ref 75) (.ref 56) = some false) (i := 6) (j := 23) rfl rfl rfl) | 3, _ => (cZ.dec (p := PySem.W.exmOne K (.ref 94) (.ref 56) = some false) (i := 6) (j := 24) rfl rfl rfl) | 4, _ => (cZ.dec (p := PySem.W.exmOne K (.ref 113) (.ref 56) = some false) (i := 7) (j := 0) rfl rfl rfl) | n + 5, h => absurd h (by omega),
    xe_SiltError := fun c hc => match c, hc with | 0, _ => (cZ.dec (p := PySem.W.exmOne K (.ref 37) (.ref 24) = some true) (i := 7) (j := 1) rfl rfl rfl) | 1, _ => (cZ.dec (p := PySem.W.exmOne K (.ref 56) (.ref 24) = some true) (i := 7) (j := 2) rfl rfl rfl) | 2, _ => (cZ.dec (p := PySem.W.exmOne K (.ref 75) (.ref 24) = some true) (i := 7) (j := 3) rfl rfl rfl) | 3, _ => (cZ.dec (p := PySem.W.exmOne K (.ref 94) (.ref 24) = some true) (i := 7) (j := 4) rfl rfl rfl) | 4, _ => (cZ.dec (p := PySem.W.exmOne K (.ref 113) (.ref 24) = some true) (i := 7) (j := 5) rfl rfl rfl) | n + 5, h => absurd h (by omega),
    xk_BadCore := fun c hc => match c, hc with | 0, _ => (cZ.dec (p := PySem.W.kitOne K (.ref 37) (.ref 37) = some true) (i := 7) (j := 6) rfl rfl rfl) | 1, _ => (cZ.dec (p := PySem.W.kitOne K (.ref 56) (.ref 37) = some true) (i := 7) (j := 7) rfl rfl rfl) | 2, _ => (cZ.dec (p := PySem.W.kitOne K (.ref 75) (.ref 37) = some true) (i := 7) (j := 8) rfl rfl rfl) | 3, _ => (cZ.dec (p := PySem.W.kitOne K (.ref 94) (.ref 37) = some false) (i := 7) (j := 9) rfl rfl rfl) | 4, _ => (cZ.dec (p := PySem.W.kitOne K (.ref 113) (.ref 37) = some false) (i := 7) (j := 10) rfl rfl rfl) | n + 5, h => absurd h (by omega),
    xk_BadJoint := fun c hc => match c, hc with | 0, _ => (cZ.dec (p := PySem.W.kitOne K (.ref 37) (.ref 75) = some false) (i := 7) (j := 11) rfl rfl rfl) | 1, _ => (cZ.dec (p := PySem.W.kitOne K (.ref 56) (.ref 75) = some false) (i := 7) (j := 12) rfl rfl rfl) | 2, _ => (cZ.dec (p := PySem.W.kitOne K (.ref 75) (.ref 75) = some true) (i := 7) (j := 13) rfl rfl rfl) | 3, _ => (cZ.dec (p := PySem.W.kitOne K (.ref 94) (.ref 75) = some false) (i := 7) (j := 14) rfl rfl rfl) | 4, _ => (cZ.dec (p := PySem.W.kitOne K (.ref 113) (.ref 75) = some false) (i := 7) (j := 15) rfl rfl rfl) | n + 5, h => absurd h (by omega),
    xk_BadLayer := fun c hc => match c, hc with | 0, _ => (cZ.dec (p := PySem.W.kitOne K (.ref 37) (.ref 56) = some false) (i := 7) (j := 16) rfl rfl rfl) | 1, _ => (cZ.dec (p := PySem.W.kitOne K (.ref 56) (.ref 56) = some true) (i := 7) (j := 17) rfl rfl rfl) | 2, _ => (cZ.dec (p := PySem.W.kitOne K (.ref 75) (.ref 56) = some false) (i := 7) (j := 18) rfl rfl rfl) | 3, _ => (cZ.dec (p := PySem.W.kitOne K (.ref 94) (.ref 56) = some false) (i := 7) (j := 19) rfl rfl rfl) | 4, _ => (cZ.dec (p := PySem.W.kitOne K (.ref 113) (.ref 56) = some false) (i := 7) (j := 20) rfl rfl rfl) | n + 5, h => absurd h (by omega),
    xk_ValueError := fun c hc => match c, hc with | 0, _ => (cZ.dec (p := PySem.W.kitOne K (.ref 37) (.type "ValueError") = some true) (i := 7) (j := 21) rfl rfl rfl) | 1, _ => (cZ.dec (p := PySem.W.kitOne K (.ref 56) (.type "ValueError") = some true) (i := 7) (j := 22) rfl rfl rfl) | 2, _ => (cZ.dec (p := PySem.W.kitOne K (.ref 75) (.type "ValueError") = some true) (i := 7) (j := 23) rfl rfl rfl) | 3, _ => (cZ.dec (p := PySem.W.kitOne K (.ref 94) (.type "ValueError") = some true) (i := 7) (j := 24) rfl rfl rfl) | 4, _ => (cZ.dec (p := PySem.W.kitOne K (.ref 113) (.type "ValueError") = some true) (i := 8) (j := 0) rfl rfl rfl) | n + 5, h => absurd h (by omega),
    ik_Core := (fun ty b h => by
      unfold i_Core at h
      split at h
      · cases h; exact (cZ.dec (p := PySem.W.kitOne K (.type "NoneType") (.ref 291) = some false) (i := 8) (j := 1) rfl rfl rfl)
      · cases h; exact (cZ.dec (p := PySem.W.kitOne K (.type "bool") (.ref 291) = some false) (i := 8) (j := 2) rfl rfl rfl)
      · cases h; exact (cZ.dec (p := PySem.W.kitOne K (.type "int") (.ref 291) = some false) (i := 8) (j := 3) rfl rfl rfl)
      · cases h; exact (cZ.dec (p := PySem.W.kitOne K (.type "str") (.ref 291) = some false) (i := 8) (j := 4) rfl rfl rfl)
      · cases h; exact (cZ.dec (p := PySem.W.kitOne K (.type "tuple") (.ref 291) = some false) (i := 8) (j := 5) rfl rfl rfl)
      · cases h; exact (cZ.dec (p := PySem.W.kitOne K (.type "list") (.ref 291) = some false) (i := 8) (j := 6) rfl rfl rfl)
      · cases h; exact (cZ.dec (p := PySem.W.kitOne K (.ref 291) (.ref 291) = some true) (i := 8) (j := 7) rfl rfl rfl)
      · cases h),
    ic_Core := (fun c b h => by
      unfold i_Core at h
      split at h
      · rename_i e; cases e
      · rename_i e; cases e
      · rename_i e; cases e
      · rename_i e; cases e
      · rename_i e; cases e
      · rename_i e; cases e
      · rename_i e; cases e; exact ⟨⟨(cZ.fact (i := 2) (j := 22) rfl rfl : PySem.W.plainGet K 291 Str.empty = true), (cZ.fact (i := 2) (j := 23) rfl rfl : PySem.W.hasDictIn K 291 = true), (cZ.fact (i := 2) (j := 24) rfl rfl : PySem.W.plainOver K 291 = true), (cZ.dec (p := PySem.W.findIn K (.ref 291) "__setattr__" = some (some (.builtin "object.__setattr__"))) (i := 3) (j := 0) rfl rfl rfl)⟩, (cZ.dec (p := PySem.W.findIn K (.ref 291) "__class__" = some (some (.builtin "object.__class__"))) (i := 8) (j := 8) rfl rfl rfl), (cZ.dec (p := PySem.W.specialIn K (.builtin "object.__class__") "__get__" = some (some (.builtin "getset_descriptor.__get__"))) (i := 5) (j := 9) rfl rfl rfl), (cZ.dec (p := PySem.W.takesIn K (.builtin "object.__class__") = some true) (i := 5) (j := 10) rfl rfl rfl), (cZ.dec (p := PySem.W.mroIn K 291 (.type "object") = some true) (i := 8) (j := 9) rfl rfl rfl)⟩
      · cases h),
    ik_bool := (fun ty b h => by
      unfold i_bool at h
      split at h
      · cases h; exact kit_ty (by decide +kernel)
      · cases h; exact kit_ty (by decide +kernel)
      · cases h; exact kit_ty (by decide +kernel)
      · cases h; exact kit_ty (by decide +kernel)
      · cases h; exact kit_ty (by decide +kernel)
      · cases h; exact kit_ty (by decide +kernel)
      · cases h; exact (cZ.dec (p := PySem.W.kitOne K (.ref 291) (.type "bool") = some false) (i := 8) (j := 10) rfl rfl rfl)
      · cases h),
    ic_bool := (fun c b h => by
      unfold i_bool at h
      split at h
      · rename_i e; cases e
      · rename_i e; cases e
      · rename_i e; cases e
      · rename_i e; cases e
      · rename_i e; cases e
      · rename_i e; cases e
      · rename_i e; cases e; exact ⟨⟨(cZ.fact (i := 2) (j := 22) rfl rfl : PySem.W.plainGet K 291 Str.empty = true), (cZ.fact (i := 2) (j := 23) rfl rfl : PySem.W.hasDictIn K 291 = true), (cZ.fact (i := 2) (j := 24) rfl rfl : PySem.W.plainOver K 291 = true), (cZ.dec (p := PySem.W.findIn K (.ref 291) "__setattr__" = some (some (.builtin "object.__setattr__"))) (i := 3) (j := 0) rfl rfl rfl)⟩, (cZ.dec (p := PySem.W.findIn K (.ref 291) "__class__" = some (some (.builtin "object.__class__"))) (i := 8) (j := 8) rfl rfl rfl), (cZ.dec (p := PySem.W.specialIn K (.builtin "object.__class__") "__get__" = some (some (.builtin "getset_descriptor.__get__"))) (i := 5) (j := 9) rfl rfl rfl), (cZ.dec (p := PySem.W.takesIn K (.builtin "object.__class__") = some true) (i := 5) (j := 10) rfl rfl rfl), (cZ.dec (p := PySem.W.mroIn K 291 (.type "object") = some true) (i := 8) (j := 9) rfl rfl rfl)⟩
      · cases h),
    ik_int := (fun ty b h => by
      unfold i_int at h
      split at h
      · cases h; exact kit_ty (by decide +kernel)
      · cases h; exact kit_ty (by decide +kernel)
      · cases h; exact kit_ty (by decide +kernel)
      · cases h; exact kit_ty (by decide +kernel)
      · cases h; exact kit_ty (by decide +kernel)
      · cases h; exact kit_ty (by decide +kernel)
      · cases h; exact (cZ.dec (p := PySem.W.kitOne K (.ref 291) (.type "int") = some false) (i := 8) (j := 11) rfl rfl rfl)
      · cases h),
    ic_int := (fun c b h => by
      unfold i_int at h
      split at h
      · rename_i e; cases e
      · rename_i e; cases e
      · rename_i e; cases e
      · rename_i e; cases e
      · rename_i e; cases e
      · rename_i e; cases e
      · rename_i e; cases e; exact ⟨⟨(cZ.fact (i := 2) (j := 22) rfl rfl : PySem.W.plainGet K 291 Str.empty = true), (cZ.fact (i := 2) (j := 23) rfl rfl : PySem.W.hasDictIn K 291 = true), (cZ.fact (i := 2) (j := 24) rfl rfl : PySem.W.plainOver K 291 = true), (cZ.dec (p := PySem.W.findIn K (.ref 291) "__setattr__" = some (some (.builtin "object.__setattr__"))) (i := 3) (j := 0) rfl rfl rfl)⟩, (cZ.dec (p := PySem.W.findIn K (.ref 291) "__class__" = some (some (.builtin "object.__class__"))) (i := 8) (j := 8) rfl rfl rfl), (cZ.dec (p := PySem.W.specialIn K (.builtin "object.__class__") "__get__" = some (some (.builtin "getset_descriptor.__get__"))) (i := 5) (j := 9) rfl rfl rfl), (cZ.dec (p := PySem.W.takesIn K (.builtin "object.__class__") = some true) (i := 5) (j := 10) rfl rfl rfl), (cZ.dec (p := PySem.W.mroIn K 291 (.type "object") = some true) (i := 8) (j := 9) rfl rfl rfl)⟩
      · cases h),
    ik_tuple := (fun ty b h => by
      unfold i_tuple at h
      split at h
      · cases h; exact kit_ty (by decide +kernel)
      · cases h; exact kit_ty (by decide +kernel)
      · cases h; exact kit_ty (by decide +kernel)
      · cases h; exact kit_ty (by decide +kernel)
      · cases h; exact kit_ty (by decide +kernel)
      · cases h; exact kit_ty (by decide +kernel)
      · cases h; exact (cZ.dec (p := PySem.W.kitOne K (.ref 291) (.type "tuple") = some false) (i := 8) (j := 12) rfl rfl rfl)
      · cases h),
    ic_tuple := (fun c b h => by
      unfold i_tuple at h
      split at h
      · rename_i e; cases e
      · rename_i e; cases e
      · rename_i e; cases e
      · rename_i e; cases e
      · rename_i e; cases e
      · rename_i e; cases e
      · rename_i e; cases e; exact ⟨⟨(cZ.fact (i := 2) (j := 22) rfl rfl : PySem.W.plainGet K 291 Str.empty = true), (cZ.fact (i := 2) (j := 23) rfl rfl : PySem.W.hasDictIn K 291 = true), (cZ.fact (i := 2) (j := 24) rfl rfl : PySem.W.plainOver K 291 = true), (cZ.dec (p := PySem.W.findIn K (.ref 291) "__setattr__" = some (some (.builtin "object.__setattr__"))) (i := 3) (j := 0) rfl rfl rfl)⟩, (cZ.dec (p := PySem.W.findIn K (.ref 291) "__class__" = some (some (.builtin "object.__class__"))) (i := 8) (j := 8) rfl rfl rfl), (cZ.dec (p := PySem.W.specialIn K (.builtin "object.__class__") "__get__" = some (some (.builtin "getset_descriptor.__get__"))) (i := 5) (j := 9) rfl rfl rfl), (cZ.dec (p := PySem.W.takesIn K (.builtin "object.__class__") = some true) (i := 5) (j := 10) rfl rfl rfl), (cZ.dec (p := PySem.W.mroIn K 291 (.type "object") = some true) (i := 8) (j := 9) rfl rfl rfl)⟩
      · cases h) }
open PySem PySem.Spec PyProof.Rows L2 ZH
theorem all_mk {w : World} {K : PySem.W.Frag} {h : Heap} {mg : Str → Option Value} {fa : Addr} (X : K.In h) (G : h.Ns mainGlobals mg) (hfa : mg "law" = some (.ref fa)) (cZ : SaysZ fbs fnl tbs w K) :
    ∃ fd : FuncData, (∀ (s : Shared) (v : Value), BindsTo s fd ⟨[v], []⟩ [("_law_script", v)]) ∧ ∀ base : Heap, K.In base → base.Ns mainGlobals mg → FnOk PySem.Challenge.pw_siltmeet_k03_core_made w K mg base (L2N.CX PySem.Challenge.pw_siltmeet_k03_core_made w) 7 fa fd ["_law_script"] (spLaw K) := by
  have e := hfa.symm.trans (PySem.W.mg_of X G (cZ.dec (p := PySem.W.nsIn K mainGlobals "law" = some (some (.ref 435))) (i := 2) (j := 20) rfl rfl rfl))
  cases e
  have T := tx_mk X G cZ
  obtain ⟨fd, F⟩ := fun_z (cZ.fns (i := 43) (d := dz_43) rfl) rfl rfl
  refine ⟨fd, ?_, fun base _ _ => ?_⟩
  · exact law_binds F fun _ _ _ _ _ _ s v => .of_eq rfl
  · exact (okF_law T F).imp fun vs H Q E h => sp_law h
theorem run_f (w : World) : HandSHeadRun.RunEq RR qq hkk obk 30000 nm_all (w.withFollow "special-get-raises" false) := fun os => map_trip (ra_f w os) (rb_f_0 w os)
theorem run_t (w : World) : HandSHeadRun.RunEq RR qq hkk obk 30000 nm_all (w.withFollow "special-get-raises" true) := fun os => map_trip (ra_t w os) (rb_t_0 w os)
end ZZ
set_option Elab.async false
set_option linter.all false
set_option maxRecDepth 100000
set_option maxHeartbeats 4000000
open PySem PySem.W PyProof.Rows in
set_option maxRecDepth 100000 in
set_option maxHeartbeats 0 in
theorem PySem.Challenge.cw_siltmeet_k03_core_made_holds : PySem.Challenge.rw_siltmeet_k03_core_made.Holds := by
  refine ZZ.fe0 fun said => ?_
  refine HandSHeadRun.head_any (r := ZZ.RR) (q := ZZ.qq) (H := ZZ.hkk) (ob := ZZ.obk) (M := 30000) (loose := ZZ.nm_all) (d := HandSHeadRun.topDef ZZ.RR.prog 42) (kwd := []) ZZ.obk_eq
    ZZ.fe1 ZZ.fe2 (PySem.W.byRow2 "special-get-raises" (P := fun w => HandSHeadRun.RunEq ZZ.RR ZZ.qq ZZ.hkk ZZ.obk 30000 ZZ.nm_all w) ZZ.run_f ZZ.run_t) ZZ.fe3 ZZ.fe4 ZZ.fe5 ZZ.fe6 said ZZ.fe8 ZZ.fe9 ZZ.feA ?hc
  refine ZH.walk_ofZ (l := PySem.Challenge.rw_siltmeet_k03_core_made) (n := 63) (k := 7) (x := "_law_script") (CX := fun w => L2N.CX PySem.Challenge.pw_siltmeet_k03_core_made w) rfl (by decide) ZZ.feB ⟨rfl, by decide, by decide⟩ ?F ?E
  case F =>
    intro w mg fa h Y G hmg0
    obtain ⟨K, KX, c⟩ := Y
    have hmg : mg ("law" : PySem.Str) = some (.ref fa) := by
      rw [← ZZ.feC]
      exact hmg0
    obtain ⟨fd, hb, hF⟩ := ZZ.all_mk KX G hmg c
    exact ⟨K, fd, ZZ.spLaw K, KX, hb, fun H a ns hl _ hS => ⟨a, ns, rfl, hS, hl, fun _ => rfl⟩, hF⟩
  case E =>
    intro _ _ _ _ _ h
    obtain ⟨_, _, _, _, _, _, _, _, _, _, _, _, z⟩ := h
    exact z
