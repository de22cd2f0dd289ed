import PyProof.Rows.All
import Wide.All
import OpenK.AllK
import Wide.FinOn
import KE.KeyNested
import KE.KDictWalk
import PyProof.DictRoadsH
import PyProof.DictDisplay
import PyProof.DictTable
import HandS.ForMost
import HandS.Exc
import HandS.ExcOwn
import HandS.TryOnly
import HandS.WordsExc
import HandS.Head2
import HandS.HeadHook1
import HandS.Words
import HandS.Wide
import HandS.Style
import HandS.Flow
import HandS.ExcCtx
import PyProof.P3Eq
import HandS.RevRange
import HandS.Rev
import HandS.CallSlots
import HandS.Property
import HandS.IsInst
import HandS.ExcInit
import HandS.ExcField
import HandS.ExcIs
import HandS.HotCalls
import KE.KExcIs
import KE.KDictZip
import HandS.OwnIter
import PyProof.StrBlock2
import HandS.SlotsOwn
import KE.KOpsOwn
import HandS.Replace
import HandS.ExcInitHot
import HandS.IterNext
import HandS.IterVal
import KE.KOwnIter
import KE.KCallOwn
import KE.KRevSl
import KE.KSuper
import HandS.NestedK
import HandS.ClsMeth
import HandS.MakeKwOnly
import HandS.Star
import HandS.HeadEnd
import HandS.Steps
import HandS.Zip
import KE.GoesMore
import KE.KStar
import KE.DataCmp
import HandS.Conv
import HandS.TupLen
import HandS.SortInts
import HandS.Finally
import HandS.Deep
import HandS.OwnEq
import HandS.Defaults
import HandS.GenList
import HandS.SetFor
import HandS.FStr
import HandS.Text
import HandS.StrMore
import HandS.ExcValue
import PyProof.StrLawsIn
import PySem.Challenge.RW_siltmeet_k41_errors_created
set_option Elab.async false
set_option linter.all false
set_option maxRecDepth 100000
namespace PySem
open Sem (wp)
open SeqAt
def notText : NestedKey → Bool
  | .text _ => false
  | _ => true
/-- the value is the key -/
def KeyIs (h : Heap) (k : NestedKey) (v : Value) : Prop := NestedIs h k v ∧ k.depth ≤ 8 ∧ notText k = true
def entV (w : World) (x : NestedKey × Value × Value) : DictEntry := ⟨x.1.hash w, x.2.1, x.2.2⟩
theorem KeyIs.at {h h' : Heap} {k : NestedKey} {v : Value} (hk : ∀ a o vs n, h.get? a = some o → o.data = .seq vs n → h'.get? a = some o) (x : KeyIs h k v) : KeyIs h' k v := ⟨NestedIs.at hk _ _ x.1, x.2⟩
section
variable {prog : Program} {w : World} {A : Around} {E : Value → Shared → Prop} {s : Shared} {d : Addr} {o : Obj} {es : Array DictEntry} {ep : Nat} {xs : List (NestedKey × Value × Value)} {k : NestedKey} {key : Value}
def DictV (w : World) (h : Heap) (d : Addr) (xs : List (NestedKey × Value × Value)) : Prop :=
  ∃ o es ep, h.get? d = some o ∧ o.ExactDict ∧ o.data = .dict es ep ∧ es.toList = xs.map (entV w) ∧ (∀ x ∈ xs, KeyIs h x.1 x.2.1) ∧ (xs.map (·.1)).Nodup
theorem KeyIs.keeps {h h' : Heap} {k : NestedKey} {v : Value} (x : KeyIs h k v) (ho : h.get? d = some o) (hd : o.data = .dict es ep) (hs : Heap.SameBut d h h') : KeyIs h' k v :=
  x.at (fun b ob vs n hb hc => by
    refine (hs.2 b fun e => ?_).trans hb
    subst e
    rw [ho] at hb
    cases hb
    rw [hd] at hc
    cases hc)
theorem DictV.new (h : Heap) : DictV w (h.push { cls := .type "dict", data := .dict #[] }) h.objs.size [] :=
  ⟨_, #[], 0, Heap.get?_push_size _ rfl, ⟨rfl, rfl, rfl⟩, rfl, rfl, fun _ hx => by simp at hx, List.nodup_nil⟩
end
end PySem
set_option Elab.async false
set_option linter.all false
set_option maxRecDepth 100000
namespace ZZ
open PySem PySem.Spec L2
inductive D where
  | non | bl (b : Bool) | int (i : Int) | str (s : Str)
  | tup (xs : List D) | lst (xs : List D)
  | ins (c : Nat) (xs : List D)
  | wl (xs : List D)
  | dct (ks vs : List D)
mutual
/-- a tree as a dict's key -/
def nk : D → Option NestedKey
  | .non => some .none
  | .bl b => some (.num (if b = true then 1 else 0))
  | .int i => some (.num i)
  | .str s => some (.text s)
  | .tup ds => (nks ds).map .tup
  | .lst _ => none
  | .ins _ _ => none
  | .wl _ => none
  | .dct _ _ => none
def nks : List D → Option (List NestedKey)
  | [] => some []
  | d :: ds => match nk d, nks ds with
    | some k, some ks => some (k :: ks)
    | _, _ => none
end
/-- a class's address; the exception that a suite holds -/
structure Zx where
  K : PySem.W.Frag
  cl : Nat → Addr
  fl : Nat → List Str
  wd : World
/-- the dict at a has these entries -/
def rawV (w : World) (a : Addr) (xs : List (NestedKey × Value × Value)) (ep : Nat) (h : Heap) : Prop := ∃ o es, h.get? a = some o ∧ o.ExactDict ∧ o.data = .dict es ep ∧ es.toList = xs.map (entV w)
/-- keys, values, entries -/
def Ent3 : List D → List V → List V → List (NestedKey × Value × Value) → Prop
  | [], [], [], [] => True
  | k :: ks, x :: kvs, y :: vvs, e :: xs => nk k = some e.1 ∧ e.1.depth ≤ 8 ∧ notText e.1 = true ∧ RelV x e.2.1 ∧ RelV y e.2.2 ∧ Ent3 ks kvs vvs xs
  | _, _, _, _ => False
/-- a dict's shape -/
def DShape (w : World) (ks : List D) (kvs vvs : List V) (a : Addr) (o : HO) : Prop := (a == sysModules) = false ∧ ks.length ≤ 16777216 ∧ ∃ xs ep, o = .ext (rawV w a xs ep) ∧ Ent3 ks kvs vvs xs ∧ (xs.map (·.1)).Nodup
structure Zy extends Zx where
  hd : Option (Addr × Nat × Option Addr)
mutual
def Rep (Z : Zx) (F : Hp) : D → V → Prop
  | .non, v => v = .non
  | .bl b, v => v = .bl b
  | .int i, v => v = .int i
  | .str s, v => v = .str s
  | .tup ds, v => ∃ a vs, v = .ref a ∧ SqT Z.K F a vs ∧ Reps Z F ds vs
  | .lst ds, v => ∃ a vs, v = .ref a ∧ F a = some (.lst vs) ∧ Reps Z F ds vs
  | .ins c ds, v => ∃ a dx fs, v = .ref a ∧ F a = some (.ins (Z.cl c) dx fs) ∧ fs.map (·.1) = Z.fl c ∧ Reps Z F ds (fs.map (·.2))
  | .wl ds, v => ∃ a vs, v = .ref a ∧ SqL Z.K F a vs ∧ Reps Z F ds vs
  | .dct ks vs, v => ∃ a o kvs vvs, v = .ref a ∧ F a = some o ∧ DShape Z.wd ks kvs vvs a o ∧ Reps Z F ks kvs ∧ Reps Z F vs vvs
def Reps (Z : Zx) (F : Hp) : List D → List V → Prop
  | [], vs => vs = []
  | d :: ds, vs => ∃ v r, vs = v :: r ∧ Rep Z F d v ∧ Reps Z F ds r
end
theorem same_seqT {K : PySem.W.Frag} {H H' : Hp} {a : Addr} {xs : List V} (e : Same H H') (h : SqT K H a xs) : SqT K H' a xs := by
  rcases h with (h | ⟨o, h⟩) | h
  · exact .inl (.inl (e _ _ h))
  · exact .inl (.inr ⟨o, e _ _ h⟩)
  · exact .inr h
section
variable {Z : Zx} {F F' : Hp}
mutual
theorem Rep.mono (e : Same F F') : ∀ {d : D} {v : V}, Rep Z F d v → Rep Z F' d v
  | .non, _, h => h
  | .bl _, _, h => h
  | .int _, _, h => h
  | .str _, _, h => h
  | .tup ds, v, h => by
    unfold Rep at h ⊢
    obtain ⟨a, vs, h1, h2, h3⟩ := h
    exact ⟨a, vs, h1, same_seqT e h2, Reps.mono e h3⟩
  | .lst ds, v, h => by
    unfold Rep at h ⊢
    obtain ⟨a, vs, h1, h2, h3⟩ := h
    exact ⟨a, vs, h1, e _ _ h2, Reps.mono e h3⟩
  | .ins c ds, v, h => by
    unfold Rep at h ⊢
    obtain ⟨a, dx, fs, h1, h2, h3, h4⟩ := h
    exact ⟨a, dx, fs, h1, e _ _ h2, h3, Reps.mono e h4⟩
  | .wl ds, v, h => by
    unfold Rep at h ⊢
    obtain ⟨a, vs, h1, h2, h3⟩ := h
    exact ⟨a, vs, h1, e.seq h2, Reps.mono e h3⟩
  | .dct ks vs, v, h => by
    unfold Rep at h ⊢
    obtain ⟨a, o, kvs, vvs, h1, h2, h3, h4, h5⟩ := h
    exact ⟨a, o, kvs, vvs, h1, e _ _ h2, h3, Reps.mono e h4, Reps.mono e h5⟩
theorem Reps.mono (e : Same F F') : ∀ {ds : List D} {vs : List V}, Reps Z F ds vs → Reps Z F' ds vs
  | [], _, h => h
  | d :: ds, vs, h => by
    unfold Reps at h ⊢
    obtain ⟨v, r, h1, h2, h3⟩ := h
    exact ⟨v, r, h1, Rep.mono e h2, Reps.mono e h3⟩
end
theorem reps_nil : Reps Z F [] [] := by unfold Reps; rfl
theorem reps_cons {d : D} {v : V} {ds : List D} {vs : List V} (h : Rep Z F d v) (h' : Reps Z F ds vs) : Reps Z F (d :: ds) (v :: vs) := by
  unfold Reps
  exact ⟨v, vs, rfl, h, h'⟩
theorem reps_cons_inv {d : D} {ds : List D} {vs : List V} (h : Reps Z F (d :: ds) vs) : ∃ v r, vs = v :: r ∧ Rep Z F d v ∧ Reps Z F ds r := by
  unfold Reps at h
  exact h
theorem reps_nil_inv {vs : List V} (h : Reps Z F [] vs) : vs = [] := by
  unfold Reps at h
  exact h
theorem Reps.length : ∀ {ds : List D} {vs : List V}, Reps Z F ds vs → ds.length = vs.length
  | [], _, h => by
    rw [reps_nil_inv h]
    rfl
  | d :: ds, vs, h => by
    obtain ⟨v, r, rfl, _, h3⟩ := reps_cons_inv h
    simp [Reps.length h3]
theorem Reps.get' : ∀ {ds : List D} {vs : List V} {i : Nat} {d : D}, Reps Z F ds vs → ds[i]? = some d → ∃ v, vs[i]? = some v ∧ Rep Z F d v
  | [], _, i, v, h, e => by simp at e
  | d :: ds, vs, 0, v, h, e => by
    obtain ⟨w, r, rfl, h2, h3⟩ := reps_cons_inv h
    simp at e
    subst e
    exact ⟨w, rfl, h2⟩
  | d :: ds, vs, i + 1, v, h, e => by
    obtain ⟨w, r, rfl, h2, h3⟩ := reps_cons_inv h
    obtain ⟨d', e1, e2⟩ := Reps.get' (i := i) h3 (by simpa using e)
    exact ⟨d', by simpa using e1, e2⟩
theorem Reps.append : ∀ {ds es : List D} {vs ws : List V}, Reps Z F ds vs → Reps Z F es ws → Reps Z F (ds ++ es) (vs ++ ws)
  | [], es, vs, ws, h, h' => by
    rw [reps_nil_inv h]
    exact h'
  | d :: ds, es, vs, ws, h, h' => by
    obtain ⟨v, r, rfl, h2, h3⟩ := reps_cons_inv h
    exact reps_cons h2 (Reps.append h3 h')
theorem Reps.take : ∀ {ds : List D} {vs : List V} (n : Nat), Reps Z F ds vs → Reps Z F (ds.take n) (vs.take n)
  | _, _, 0, _ => by simp [reps_nil]
  | [], vs, n + 1, h => by
    rw [reps_nil_inv h]
    simp [reps_nil]
  | d :: ds, vs, n + 1, h => by
    obtain ⟨v, r, rfl, h2, h3⟩ := reps_cons_inv h
    exact reps_cons h2 (Reps.take n h3)
theorem Reps.drop : ∀ {ds : List D} {vs : List V} (n : Nat), Reps Z F ds vs → Reps Z F (ds.drop n) (vs.drop n)
  | _, _, 0, h => by simpa using h
  | [], vs, n + 1, h => by
    rw [reps_nil_inv h]
    simp [reps_nil]
  | d :: ds, vs, n + 1, h => by
    obtain ⟨v, r, rfl, h2, h3⟩ := reps_cons_inv h
    simpa using Reps.drop n h3
theorem Reps.reverse : ∀ {ds : List D} {vs : List V}, Reps Z F ds vs → Reps Z F ds.reverse vs.reverse
  | [], vs, h => by
    rw [reps_nil_inv h]
    simp [reps_nil]
  | d :: ds, vs, h => by
    obtain ⟨v, r, rfl, h2, h3⟩ := reps_cons_inv h
    rw [List.reverse_cons, List.reverse_cons]
    exact Reps.append (Reps.reverse h3) (reps_cons h2 reps_nil)
theorem Reps.set : ∀ {ds : List D} {vs : List V} {d : D} {v : V} (i : Nat), Reps Z F ds vs → Rep Z F d v → Reps Z F (ds.set i d) (vs.set i v)
  | [], vs, _, _, i, h, _ => by
    rw [reps_nil_inv h]
    simp [reps_nil]
  | d :: ds, vs, _, _, 0, h, h' => by
    obtain ⟨v, r, rfl, h2, h3⟩ := reps_cons_inv h
    exact reps_cons h' h3
  | d :: ds, vs, _, _, i + 1, h, h' => by
    obtain ⟨v, r, rfl, h2, h3⟩ := reps_cons_inv h
    exact reps_cons h2 (Reps.set i h3 h')
theorem Reps.eraseIdx : ∀ {ds : List D} {vs : List V} (i : Nat), Reps Z F ds vs → Reps Z F (ds.eraseIdx i) (vs.eraseIdx i)
  | [], vs, i, h => by
    rw [reps_nil_inv h]
    simp [reps_nil]
  | d :: ds, vs, 0, h => by
    obtain ⟨v, r, rfl, h2, h3⟩ := reps_cons_inv h
    simpa using h3
  | d :: ds, vs, i + 1, h => by
    obtain ⟨v, r, rfl, h2, h3⟩ := reps_cons_inv h
    simpa using reps_cons h2 (Reps.eraseIdx i h3)
end
inductive Val where
  | im (d : D) | cell (k : Nat) | exn (c : Nat) (ds : List D)
inductive Cell where
  | dead | lst (ds : List D) | ins (c : Nat) (ds : List D) | ptr (ks : List Nat) | dct (ks vs : List D)
def ExcOk (Z : Zx) (F : Hp) (c : Nat) (ds : List D) (dx : Option Addr) : Prop :=
  (ds = [] ∧ dx = none) ∨ ∃ d fs, dx = some d ∧ F d = some (.xd fs) ∧ fs.map (·.1) = Z.fl c ∧ Reps Z F ds (fs.map (·.2))
/-- at a: an exception made by hand, its dict at dx -/
def xoV (a C : Addr) (dx : Option Addr) : HO := .ext fun h => ∃ (o : Obj) (vs : Array Value), h.get? a = some o ∧ o.cls = .ref C ∧ o.dict = dx ∧ o.data = .fields vs
def VRep (Z : Zy) (A : List Addr) (F : Hp) : Val → V → Prop
  | .im d, v => Rep Z.toZx F d v
  | .cell k, v => ∃ a, A[k]? = some a ∧ v = .ref a
  | .exn c ds, v => (c < 1000 ∧ ∃ a dx, Z.hd = some (a, c, dx) ∧ v = .ref a ∧ ExcOk Z.toZx F c ds dx) ∨ (1000 ≤ c ∧ ∃ a dx, v = .ref a ∧ F a = some (xoV a (Z.cl (c - 1000)) dx) ∧ ExcOk Z.toZx F (c - 1000) ds dx)
/-- the cells ks stand at bs, all below k -/
def PtrL (A : List Addr) (k : Nat) : List Nat → List Addr → Prop
  | [], bs => bs = []
  | j :: js, bs => ∃ b t, bs = b :: t ∧ j < k ∧ A[j]? = some b ∧ PtrL A k js t
def CellOk (Z : Zx) (A : List Addr) (F H : Hp) (a : Addr) : Cell → Prop
  | .dead => ∃ o, H a = some o
  | .lst ds => F a = none ∧ ∃ vs, H a = some (.lst vs) ∧ Reps Z F ds vs
  | .ins c ds => F a = none ∧ ∃ dx fs, H a = some (.ins (Z.cl c) dx fs) ∧ fs.map (·.1) = (Z.fl c).take ds.length ∧ Reps Z F ds (fs.map (·.2))
  | .ptr ks => F a = none ∧ ∃ k bs, A[k]? = some a ∧ H a = some (.lst (bs.map V.ref)) ∧ PtrL A k ks bs
  | .dct ks vs => F a = none ∧ ∃ o kvs vvs, H a = some o ∧ DShape Z.wd ks kvs vvs a o ∧ Reps Z F ks kvs ∧ Reps Z F vs vvs
/-- the store: F what never changes any more, A the cells' addresses -/
structure SO (Z : Zx) (A : List Addr) (F : Hp) (ce : List Cell) (H : Hp) : Prop where
  sub : Same F H
  len : A.length = ce.length
  nd : A.Nodup
  ok : ∀ (k : Nat) (a : Addr) (c : Cell), A[k]? = some a → ce[k]? = some c → CellOk Z A F H a c
abbrev Sl : Type := List (Option Val)
structure SL (Z : Zy) (A : List Addr) (F : Hp) (sl : Sl) (σ : St) : Prop where
  len : sl.length = σ.length
  is : ∀ (i : Nat) (v : Val), sl[i]? = some (some v) → ∃ x, σ[i]? = some (some x) ∧ VRep Z A F v x
section
variable {Z : Zx} {A A' : List Addr} {F F' H : Hp} {ce : List Cell} {sl : Sl} {σ : St}
theorem ExcOk.mono {c ds dx} (e : Same F F') (h : ExcOk Z F c ds dx) : ExcOk Z F' c ds dx := by
  rcases h with h | ⟨d, fs, h1, h2, h3, h4⟩
  · exact .inl h
  · exact .inr ⟨d, fs, h1, e _ _ h2, h3, h4.mono e⟩
theorem pre_get {k : Nat} {a : Addr} (p : A <+: A') (h : A[k]? = some a) : A'[k]? = some a := by
  obtain ⟨t, rfl⟩ := p
  have := (List.getElem?_eq_some_iff.mp h).1
  rw [List.getElem?_append_left this]
  exact h
theorem VRep.mono {Z : Zy} {v : Val} {x : V} (p : A <+: A') (e : Same F F') (h : VRep Z A F v x) : VRep Z A' F' v x := by
  cases v with
  | im d => exact Rep.mono e h
  | cell k =>
    obtain ⟨a, h1, h2⟩ := h
    exact ⟨a, pre_get p h1, h2⟩
  | exn c ds =>
    rcases h with ⟨h0, a, dx, h1, h2, h3⟩ | ⟨h0, a, dx, h1, h2, h3⟩
    · exact .inl ⟨h0, a, dx, h1, h2, h3.mono e⟩
    · exact .inr ⟨h0, a, dx, h1, e _ _ h2, h3.mono e⟩
theorem SL.mono {Z : Zy} (p : A <+: A') (e : Same F F') (h : SL Z A F sl σ) : SL Z A' F' sl σ :=
  ⟨h.len, fun i v q => let ⟨x, h1, h2⟩ := h.is i v q; ⟨x, h1, h2.mono p e⟩⟩
theorem SL.set {Z : Zy} {i : Nat} {v : Val} {x : V} (h : SL Z A F sl σ) (hv : VRep Z A F v x) : SL Z A F (sl.set i (some v)) (σ.set i (some x)) := by
  refine ⟨by simp [h.len], fun j w q => ?_⟩
  by_cases hj : i = j
  · subst hj
    by_cases hl : i < sl.length
    · rw [List.getElem?_set_self hl] at q
      cases q
      refine ⟨x, ?_, hv⟩
      rw [List.getElem?_set_self (by rw [← h.len]; exact hl)]
    · rw [List.getElem?_eq_none (by simpa using hl)] at q
      cases q
  · rw [List.getElem?_set_ne hj] at q
    obtain ⟨y, h1, h2⟩ := h.is j w q
    exact ⟨y, by rw [List.getElem?_set_ne hj]; exact h1, h2⟩
theorem SL.gone {Z : Zy} {i : Nat} (h : SL Z A F sl σ) : SL Z A F (sl.set i none) (σ.set i none) := by
  refine ⟨by simp [h.len], fun j w q => ?_⟩
  by_cases hj : i = j
  · subst hj
    by_cases hl : i < sl.length
    · rw [List.getElem?_set_self hl] at q
      cases q
    · rw [List.getElem?_eq_none (by simpa using hl)] at q
      cases q
  · rw [List.getElem?_set_ne hj] at q
    rw [List.getElem?_set_ne hj]
    exact h.is j w q
theorem SO.tracked (s : SO Z A F ce H) {k : Nat} {a : Addr} (h : A[k]? = some a) : ∃ o, H a = some o := by
  have hl : k < ce.length := by rw [← s.len]; exact (List.getElem?_eq_some_iff.mp h).1
  have := s.ok k a ce[k] h (List.getElem?_eq_getElem hl)
  cases hc : ce[k] with
  | dead => rw [hc] at this; exact this
  | lst ds => rw [hc] at this; obtain ⟨_, vs, h1, _⟩ := this; exact ⟨_, h1⟩
  | ins c ds => rw [hc] at this; obtain ⟨_, dx, fs, h1, _⟩ := this; exact ⟨_, h1⟩
  | ptr ks => rw [hc] at this; obtain ⟨_, k, bs, _, h1, _⟩ := this; exact ⟨_, h1⟩
  | dct ks vs => rw [hc] at this; obtain ⟨_, o, kvs, vvs, h1, _⟩ := this; exact ⟨_, h1⟩
theorem PtrL.mono {k : Nat} (p : A <+: A') : ∀ {ks : List Nat} {bs : List Addr}, PtrL A k ks bs → PtrL A' k ks bs
  | [], bs, h => h
  | j :: js, bs, ⟨b, t, e, h1, h2, h3⟩ => ⟨b, t, e, h1, pre_get p h2, PtrL.mono p h3⟩
theorem SO.fnone (s : SO Z A F ce H) {p : Addr} (hp : H p = none) : F p = none := by
  cases e : F p with
  | none => rfl
  | some o => rw [s.sub _ _ e] at hp; cases hp
theorem same_up {p : Addr} {o : HO} (h : F p = none) : Same F (upd F p o) := fun b x e => by
  rw [upd_ne (ne_of_none e h)]
  exact e
theorem CellOk.mono {a : Addr} {c : Cell} {H' : Hp} (p : A <+: A') (e : Same F F') (h : CellOk Z A F H a c) (hH : H' a = H a) (hF : F a = none → F' a = none) : CellOk Z A' F' H' a c := by
  cases c with
  | dead => obtain ⟨o, h⟩ := h; exact ⟨o, by rw [hH]; exact h⟩
  | lst ds => obtain ⟨h0, vs, h1, h2⟩ := h; exact ⟨hF h0, vs, by rw [hH]; exact h1, h2.mono e⟩
  | ins c ds => obtain ⟨h0, dx, fs, h1, h2, h3⟩ := h; exact ⟨hF h0, dx, fs, by rw [hH]; exact h1, h2, h3.mono e⟩
  | ptr ks => obtain ⟨h0, k, bs, h1, h2, h3⟩ := h; exact ⟨hF h0, k, bs, pre_get p h1, by rw [hH]; exact h2, h3.mono p⟩
  | dct ks vs => obtain ⟨h0, o, kvs, vvs, h1, h2, h3, h4⟩ := h; exact ⟨hF h0, o, kvs, vvs, by rw [hH]; exact h1, h2, h3.mono e, h4.mono e⟩
theorem SO.new (s : SO Z A F ce H) {p : Addr} {o : HO} (hp : H p = none) : SO Z A (upd F p o) ce (upd H p o) := by
  have fp := s.fnone hp
  refine ⟨fun b x e => ?_, s.len, s.nd, fun k a c h1 h2 => ?_⟩
  · by_cases hb : b = p
    · subst hb
      rw [upd_same] at e ⊢
      exact e
    · rw [upd_ne hb] at e ⊢
      exact s.sub _ _ e
  · obtain ⟨u, hu⟩ := s.tracked h1
    have hne : a ≠ p := ne_of_none hu hp
    exact (s.ok k a c h1 h2).mono (List.prefix_refl _) (same_up fp) (upd_ne hne) (fun h => by rw [upd_ne hne]; exact h)
theorem SO.newCell (s : SO Z A F ce H) {p : Addr} {o : HO} {c : Cell} (hp : H p = none) (hc : CellOk Z (A ++ [p]) F (upd H p o) p c) : SO Z (A ++ [p]) F (ce ++ [c]) (upd H p o) := by
  refine ⟨fun b x e => ?_, by simp [s.len], ?_, fun k a d h1 h2 => ?_⟩
  · rw [upd_ne (ne_of_none (s.sub _ _ e) hp)]
    exact s.sub _ _ e
  · refine List.nodup_append.mpr ⟨s.nd, by simp, fun a ha b hb e => ?_⟩
    simp at hb
    subst hb
    subst e
    obtain ⟨k, hk⟩ := List.getElem?_of_mem ha
    obtain ⟨u, hu⟩ := s.tracked hk
    rw [hp] at hu
    cases hu
  · by_cases hk : k < A.length
    · rw [List.getElem?_append_left hk] at h1
      rw [List.getElem?_append_left (by rw [← s.len]; exact hk)] at h2
      obtain ⟨u, hu⟩ := s.tracked h1
      exact (s.ok k a d h1 h2).mono (List.prefix_append _ _) (Same.refl _) (upd_ne (ne_of_none hu hp)) id
    · rw [List.getElem?_append_right (by omega)] at h1
      rw [List.getElem?_append_right (by rw [← s.len]; omega), ← s.len] at h2
      have : k - A.length = 0 := by
        have := (List.getElem?_eq_some_iff.mp h1).1
        simp at this
        omega
      rw [this] at h1 h2
      simp at h1 h2
      subst h1 h2
      exact hc
theorem SO.write (s : SO Z A F ce H) {k : Nat} {a : Addr} {o : HO} {c : Cell} (hk : A[k]? = some a) (hf : F a = none) (hc : CellOk Z A F (upd H a o) a c) : SO Z A F (ce.set k c) (upd H a o) := by
  refine ⟨fun b x e => ?_, by simp [s.len], s.nd, fun j b d h1 h2 => ?_⟩
  · rw [upd_ne (ne_of_none e hf)]
    exact s.sub _ _ e
  · by_cases hj : k = j
    · subst hj
      rw [hk] at h1
      cases h1
      have hl : k < ce.length := by rw [← s.len]; exact (List.getElem?_eq_some_iff.mp hk).1
      rw [List.getElem?_set_self hl] at h2
      cases h2
      exact hc
    · rw [List.getElem?_set_ne hj] at h2
      have hne : b ≠ a := fun e => by
        subst e
        exact hj ((List.getElem?_inj (List.getElem?_eq_some_iff.mp hk).1 s.nd).mp (hk.trans h1.symm))
      exact (s.ok j b d h1 h2).mono (List.prefix_refl _) (Same.refl _) (upd_ne hne) id
theorem SO.freeze (s : SO Z A F ce H) {k : Nat} {a : Addr} {o : HO} (hk : A[k]? = some a) (hf : F a = none) (ho : H a = some o) : SO Z A (upd F a o) (ce.set k .dead) H := by
  refine ⟨fun b x e => ?_, by simp [s.len], s.nd, fun j b d h1 h2 => ?_⟩
  · by_cases hb : b = a
    · subst hb
      rw [upd_same] at e
      cases e
      exact ho
    · rw [upd_ne hb] at e
      exact s.sub _ _ e
  · by_cases hj : k = j
    · subst hj
      rw [hk] at h1
      cases h1
      have hl : k < ce.length := by rw [← s.len]; exact (List.getElem?_eq_some_iff.mp hk).1
      rw [List.getElem?_set_self hl] at h2
      cases h2
      exact ⟨o, ho⟩
    · rw [List.getElem?_set_ne hj] at h2
      have hne : b ≠ a := fun e => by
        subst e
        exact hj ((List.getElem?_inj (List.getElem?_eq_some_iff.mp hk).1 s.nd).mp (hk.trans h1.symm))
      exact (s.ok j b d h1 h2).mono (List.prefix_refl _) (same_up hf) rfl (fun h => by rw [upd_ne hne]; exact h)
end
inductive EOut where
  | ok (v : Val) (ce : List Cell) | exc (c : Nat) (ds : List D) (ce : List Cell) | stuck
abbrev DE := Sl → List Cell → EOut
def PostE (Z : Zy) (A : List Addr) (F : Hp) (W : WX) (σ : St) (Q : VK) : EOut → Prop
  | .ok v ce => ∀ A' F' H' x, A <+: A' → Same F F' → SO Z.toZx A' F' ce H' → VRep Z A' F' v x → Q x H'
  | .exc c ds ce => ∀ A' F' H' dx, A <+: A' → Same F F' → SO Z.toZx A' F' ce H' → ExcOk Z.toZx F' c ds dx → W (.ref (Z.cl c)) dx σ H'
  | .stuck => False
def tE (Z : Zy) (W : WX) (f : DE) : TE := fun σ H Q => ∃ A F sl ce, SO Z.toZx A F ce H ∧ SL Z A F sl σ ∧ PostE Z A F W σ Q (f sl ce)
def eBind (f : DE) (k : Val → DE) : DE := fun sl ce => match f sl ce with
  | .ok v ce' => k v sl ce'
  | .exc c ds ce' => .exc c ds ce'
  | .stuck => .stuck
section
variable {Z : Zy} {A A' : List Addr} {F F' H : Hp} {ce : List Cell} {sl : Sl} {σ : St} {W : WX} {Q Q' : VK}
theorem PostE.mono {r : EOut} (p : A <+: A') (e : Same F F') (h : PostE Z A F W σ Q r) : PostE Z A' F' W σ Q r := by
  cases r with
  | ok v ce => exact fun A2 F2 H2 x p2 e2 => h A2 F2 H2 x (p.trans p2) (e.trans e2)
  | exc c ds ce => exact fun A2 F2 H2 x p2 e2 => h A2 F2 H2 x (p.trans p2) (e.trans e2)
  | stuck => exact h
theorem PostE.imp {r : EOut} (hq : ∀ x H, Q x H → Q' x H) (h : PostE Z A F W σ Q r) : PostE Z A F W σ Q' r := by
  cases r with
  | ok v ce => exact fun A2 F2 H2 x p2 e2 s r => hq _ _ (h A2 F2 H2 x p2 e2 s r)
  | exc c ds ce => exact h
  | stuck => exact h
/-- the state behind: grown, with the store -/
theorem PostE.bind {f : DE} {k : Val → DE} (so : SO Z.toZx A F ce H) (hs : SL Z A F sl σ) (h : PostE Z A F W σ Q (eBind f k sl ce)) :
    PostE Z A F W σ (fun x H1 => ∃ A1 F1 ce1 v, A <+: A1 ∧ Same F F1 ∧ SO Z.toZx A1 F1 ce1 H1 ∧ VRep Z A1 F1 v x ∧ PostE Z A1 F1 W σ Q (k v sl ce1)) (f sl ce) := by
  unfold eBind at h
  cases e : f sl ce with
  | ok v ce1 =>
    rw [e] at h
    exact fun A1 F1 H1 x p1 e1 s1 r1 => ⟨A1, F1, ce1, v, p1, e1, s1, r1, PostE.mono p1 e1 h⟩
  | exc c ds ce1 =>
    rw [e] at h
    exact h
  | stuck =>
    rw [e] at h
    exact h.elim
theorem tE_imp {f : DE} (hq : ∀ x H, Q x H → Q' x H) (h : tE Z W f σ H Q) : tE Z W f σ H Q' := by
  obtain ⟨A, F, sl, ce, so, hs, p⟩ := h
  exact ⟨A, F, sl, ce, so, hs, p.imp hq⟩
/-- one operand -/
theorem tE1 {f : DE} {k : Val → DE} (h : tE Z W (eBind f k) σ H Q) :
    tE Z W f σ H fun x H1 => ∃ A F sl ce v, SO Z.toZx A F ce H1 ∧ SL Z A F sl σ ∧ VRep Z A F v x ∧ PostE Z A F W σ Q (k v sl ce) := by
  obtain ⟨A, F, sl, ce, so, hs, p⟩ := h
  refine ⟨A, F, sl, ce, so, hs, (PostE.bind so hs p).imp fun x H1 ⟨A1, F1, ce1, v, p1, e1, s1, r1, q1⟩ => ⟨A1, F1, sl, ce1, v, s1, hs.mono p1 e1, r1, q1⟩⟩
/-- two operands -/
theorem tE2 {f g : DE} {k : Val → Val → DE} (h : tE Z W (eBind f fun v => eBind g (k v)) σ H Q) :
    tE Z W f σ H fun x H1 => tE Z W g σ H1 fun y H2 => ∃ A F sl ce v u, SO Z.toZx A F ce H2 ∧ SL Z A F sl σ ∧ VRep Z A F v x ∧ VRep Z A F u y ∧ PostE Z A F W σ Q (k v u sl ce) := by
  refine tE_imp (fun x H1 ⟨A, F, sl, ce, v, so, hs, r, p⟩ => ?_) (tE1 h)
  refine ⟨A, F, sl, ce, so, hs, (PostE.bind so hs p).imp fun y H2 ⟨A1, F1, ce1, u, p1, e1, s1, r1, q1⟩ => ⟨A1, F1, sl, ce1, v, u, s1, hs.mono p1 e1, r.mono p1 e1, r1, q1⟩⟩
end
theorem _root_.L2.PE.weak {X : Cx} {e : Expr} {t t' : TE} (h : PE X e t) (hw : ∀ σ H Q, t' σ H Q → t σ H Q) : PE X e t' :=
  ⟨fun pins s σ H Q I q => h.run pins s σ H Q I (hw σ H Q q)⟩
theorem _root_.L2.PT.weak {X : Cx} {e : Expr} {t t' : TT} (h : PT X e t) (hw : ∀ σ H Q, t' σ H Q → t σ H Q) : PT X e t' :=
  ⟨fun pins s σ H Q I q => h.run pins s σ H Q I (hw σ H Q q)⟩
theorem _root_.L2.PA.weak {X : Cx} {e : List Expr} {t t' : TA} (h : PA X e t) (hw : ∀ σ H Q, t' σ H Q → t σ H Q) : PA X e t' :=
  ⟨fun pos pins s σ H Q I q => h.run pos pins s σ H Q I (hw σ H Q q)⟩
theorem _root_.L2.PS.weak {X : Cx} {e : Stmt} {t t' : TS} (h : PS X e t) (hw : ∀ D σ H, t' D σ H → t D σ H) : PS X e t' :=
  ⟨fun pins s σ H D I q => h.run pins s σ H D I (hw D σ H q)⟩
theorem _root_.L2.PSs.weak {X : Cx} {e : List Stmt} {t t' : TS} (h : PSs X e t) (hw : ∀ D σ H, t' D σ H → t D σ H) : PSs X e t' :=
  ⟨fun pins s σ H D I q => h.run pins s σ H D I (hw D σ H q)⟩
end ZZ
set_option Elab.async false
set_option linter.all false
set_option maxRecDepth 100000
namespace ZH
open PySem PySem.Spec PyProof.Rows L2 ZZ
abbrev Fr : Type := PySem.W.Frag
theorem ba {a b : Bool} (h : (a && b) = true) : a = true ∧ b = true := Bool.and_eq_true_iff.mp h
abbrev FnO : Type := Option (Str × Str × Arguments × FuncBody × Scope × Addr × List (Str × Addr) × Addr)
def fnO (K : Fr) (a : Addr) : FnO := match K.lookup a with
  | some ⟨_, _, .func fd, _⟩ => some (fd.name, fd.qualname, fd.params, fd.body, fd.scope, fd.globals, fd.closure, fd.builtins)
  | _ => none
structure DefZ where
  a : Addr
  name : Str
  qual : Str
  st : Stmt
  cda : Addr
  clo : List (Str × Addr) := []
  dfl : Option Addr := none
  kwd : Option Addr := none
def DefZ.val (d : DefZ) : FnO := some (d.name, d.qual, defArgs d.st, .stmts (defBody d.st), defScope d.st, mainGlobals, d.clo, builtinsNs)
def vO : Option Addr → Value
  | none => .none
  | some a => .ref a
def DefZ.ok (K : Fr) (d : DefZ) : Bool := PySem.W.keepIn K (.ref d.a) && (match K.lookup d.a with
  | some ⟨_, _, .func fd, _⟩ => PySem.W.codeIn K (.ref d.cda) d.qual && (decide (fd.code = .ref d.cda) && (decide (fd.defaults = vO d.dfl) && decide (fd.kwdefaults = vO d.kwd)))
  | _ => false)
/-- what a def's place holds -/
def FnAt (K : Fr) (d : DefZ) : Prop := ∃ oc od doc pm an ct osl, K.lookup d.a = some ⟨oc, od, .func { name := d.name, qualname := d.qual, params := defArgs d.st, body := .stmts (defBody d.st), scope := defScope d.st, globals := mainGlobals, closure := d.clo, defaults := vO d.dfl, kwdefaults := vO d.kwd, doc, pyModule := pm, annotations := an, code := .ref d.cda, closureTuple := ct, builtins := builtinsNs }, osl⟩ ∧ PySem.W.codeIn K (.ref d.cda) d.qual = true ∧ PySem.W.keepIn K (.ref d.a) = true
theorem fn_at {K : Fr} {d : DefZ} (e : fnO K d.a = d.val) (c : d.ok K = true) : FnAt K d := by
  obtain ⟨kp, c2⟩ := ba c
  unfold fnO at e
  cases q : K.lookup d.a with
  | none =>
    rw [q] at c2
    cases c2
  | some o =>
    obtain ⟨oc, od, dt, osl⟩ := o
    rw [q] at c2 e
    cases dt with
    | func fd =>
      obtain ⟨n1, n2, n3, n4, n5, n6, n7, n8, n9, n10, n11, n12, n13, n14, n15⟩ := fd
      have e2 : (some (n1, n2, n3, n4, n5, n6, n7, n15) : FnO) = some (d.name, d.qual, defArgs d.st, .stmts (defBody d.st), defScope d.st, mainGlobals, d.clo, builtinsNs) := e
      simp only [Option.some.injEq, Prod.mk.injEq] at e2
      obtain ⟨h1, h2, h3, h4, h5, h6, h7, h8⟩ := e2
      subst h1 h2 h3 h4 h5 h6 h7 h8
      obtain ⟨c3, c4⟩ := ba (show (PySem.W.codeIn K (.ref d.cda) d.qual && (decide (n13 = .ref d.cda) && (decide (n8 = vO d.dfl) && decide (n9 = vO d.kwd)))) = true from c2)
      obtain ⟨c5, c6⟩ := ba c4
      obtain ⟨c7, c8⟩ := ba c6
      have e5 := of_decide_eq_true c5
      have e7 := of_decide_eq_true c7
      have e8 := of_decide_eq_true c8
      subst e5 e7 e8
      exact ⟨oc, od, n10, n11, n12, n14, osl, q, c3, kp⟩
    | _ => cases c2
def valD : Value → Option D
  | .str s _ => some (.str s)
  | .int i _ => some (.int i)
  | .none => some .non
  | _ => none
abbrev EnO : Type := Option (Str × Int × Option D)
def enO (e : DictEntry) : EnO := match e.key with
  | .str x _ => some (x, e.hash, valD e.val)
  | _ => none
def enV (P : Params) (q : Str × D) : EnO := some (q.1, PyData.keyHash P q.1, some q.2)
def tbO (K : Fr) (a : Addr) : Option (List EnO) := match K.lookup a with
  | some ⟨.type c, none, .dict es _, sl⟩ => (match decide (c = "dict") && (sl.isEmpty && !(a == sysModules)) with
    | true => some (es.toList.map enO)
    | false => none)
  | _ => none
abbrev Tab : Type := Addr × List (Str × D)
abbrev AlZ : Type := Bool × List FnO × List (Option (List EnO))
abbrev Bs : Type := List (List (Fr → Bool))
def obsZ (bs : Bs) (fn : List DefZ) (tb : List Tab) (K : Fr) : AlZ := ((bs.all fun l => l.all fun f => f K) && fn.all fun d => d.ok K, fn.map (fun d => fnO K d.a), tb.map fun t => tbO K t.1)
def valZ (fn : List DefZ) (tb : List Tab) (w : World) : AlZ := (true, fn.map DefZ.val, tb.map fun t => some (t.2.map (enV w.params)))
def SaysZ (bs : Bs) (fn : List DefZ) (tb : List Tab) (w : World) (K : Fr) : Prop := obsZ bs fn tb K = valZ fn tb w
def obsZG (as : List Addr) (bs : Bs) (fn : List DefZ) (tb : List Tab) (g : Addr → Option Obj) : AlZ := obsZ bs fn tb (He.frG g as)
def hookZ (as : List Addr) (bs : Bs) (fn : List DefZ) (tb : List Tab) : PySem.W.Hook where
  α := AlZ
  obs := fun s => obsZG as bs fn tb s.heap.get?
  val := fun w => valZ fn tb w
  says := fun w h => ∃ K : Fr, K.In h ∧ SaysZ bs fn tb w K
  of := fun _ _ e => ⟨_, He.frG_in, e⟩
  keeps := fun _ _ _ ⟨K, hK, c⟩ k => ⟨K, PySem.W.Frag.In.keeps hK k, c⟩
theorem obsZG_eq {as : List Addr} {bs : Bs} {fn : List DefZ} {tb : List Tab} {g : Addr → Option Obj} {s : Shared} (h : ∀ a, g a = s.heap.get? a) : obsZG as bs fn tb g = (hookZ as bs fn tb).obs s := by
  have e : g = s.heap.get? := funext h
  rw [e] <;> rfl
section
variable {bs : Bs} {fn : List DefZ} {tb : List Tab} {w : World} {K : Fr}
theorem SaysZ.fact (c : SaysZ bs fn tb w K) {i j : Nat} {l : List (Fr → Bool)} {f : Fr → Bool} (h1 : bs[i]? = some l) (h2 : l[j]? = some f) : f K = true := by
  have c1 := (ba (show ((bs.all fun l => l.all fun f => f K) && fn.all fun d => d.ok K) = true from congrArg (fun z : AlZ => z.1) c)).1
  exact List.all_eq_true.mp (List.all_eq_true.mp c1 l (List.mem_of_getElem? h1)) f (List.mem_of_getElem? h2)
theorem SaysZ.dec (c : SaysZ bs fn tb w K) {i j : Nat} {l : List (Fr → Bool)} {p : Prop} [Decidable p] {f : Fr → Bool} (h1 : bs[i]? = some l) (h2 : l[j]? = some f) (e : f K = decide p) : p := of_decide_eq_true (e.symm.trans (c.fact h1 h2))
theorem SaysZ.fns (c : SaysZ bs fn tb w K) {i : Nat} {d : DefZ} (h : fn[i]? = some d) : FnAt K d := by
  have c2 := (ba (show ((bs.all fun l => l.all fun f => f K) && fn.all fun d => d.ok K) = true from congrArg (fun z : AlZ => z.1) c)).2
  have e : fn.map (fun d => fnO K d.a) = fn.map DefZ.val := congrArg (fun z : AlZ => z.2.1) c
  have e2 : (fn.map fun d => fnO K d.a)[i]? = (fn.map DefZ.val)[i]? := by rw [e]
  rw [List.getElem?_map, List.getElem?_map, h] at e2
  exact fn_at (Option.some.inj e2) (List.all_eq_true.mp c2 d (List.mem_of_getElem? h))
end
def excB (K : Fr) (C : Addr) : Bool := match K.lookup C with
  | some ⟨.type t, _, .cls cd, sl⟩ => decide (t = "type") && (cd.hasDict && (!cd.hasDel && ((match cd.mro with
    | .ref c :: bm => decide (c = C) && PySem.HandSPX.refsVE bm
    | _ => false) && (match sl.toList with
    | [_, _, _, _, some (.builtin id), _] => decide (id = "ValueError.__new__")
    | _ => false))))
  | _ => false
theorem map_trip {α β δ γ : Type} {e : Option γ} {f : γ → α} {g : γ → β} {k : γ → δ} {a : α} {b : β} {c : δ} (h1 : e.map (fun s => (f s, g s)) = some (a, b)) (h2 : e.map k = some c) : e.map (fun s => (f s, g s, k s)) = some (a, b, c) := by
  cases e with
  | none => cases h1
  | some s => cases h1; cases h2; rfl
end ZH
set_option Elab.async false
set_option linter.all false
set_option maxRecDepth 100000
set_option maxHeartbeats 4000000
namespace ZZ
open PySem PySem.Spec L2
def top (i : Nat) : Stmt := PySem.Challenge.pw_siltmeet_k41_errors_created.main.body.getD i (.Pass ⟨0, 0, 0, 0⟩)
abbrev s_BadLayer___init__ : Stmt := inClass (top 3) 0
abbrev s_BadJoint___init__ : Stmt := inClass (top 4) 0
abbrev s_NoLayer___init__ : Stmt := inClass (top 5) 0
abbrev s_NoJoint___init__ : Stmt := inClass (top 6) 0
abbrev s_BadText___init__ : Stmt := inClass (top 7) 0
abbrev s_BadRecord___init__ : Stmt := inClass (top 8) 0
abbrev s_Clash___init__ : Stmt := inClass (top 12) 0
abbrev s_BadNumber___init__ : Stmt := inClass (top 13) 0
abbrev s_NoSaying___init__ : Stmt := inClass (top 15) 0
abbrev s__law_mix : Stmt := top 17
abbrev n__law_mix : List Str := ["_law_cell", "_law_turn", "_law_number_here"]
abbrev s__law_pool : Stmt := top 18
abbrev n__law_pool : List Str := ["_law_script", "_law_many", "_law_pool_here", "_law_seed", "_law_k", "_law_rest", "_law_great", "_law_turn"]
abbrev s__law_draw : Stmt := top 19
abbrev n__law_draw : List Str := ["_law_pool_here", "_law_bound"]
abbrev s__law_number : Stmt := top 20
abbrev n__law_number : List Str := ["_law_pool_here", "_law_shape", "_law_number_here", "_law_turn"]
abbrev s__law_whole : Stmt := top 21
abbrev n__law_whole : List Str := ["_law_number_here"]
abbrev s__law_kin : Stmt := top 22
abbrev n__law_kin : List Str := ["_law_e", "_law_told", "_law_k"]
abbrev s__law_plain : Stmt := top 23
abbrev n__law_plain : List Str := ["_law_n", "_law_m", "_law_kin_here", "_law_due", "_law_k"]
abbrev s__law_bare : Stmt := top 24
abbrev n__law_bare : List Str := ["_law_kin_here"]
abbrev s__law_values : Stmt := top 25
abbrev n__law_values : List Str := ["_law_n", "_law_m", "_law_told", "_law_value", "_law_clash"]
abbrev s_law : Stmt := top 26
abbrev n_law : List Str := ["_law_script", "_law_pool_here", "_law_n", "_law_m"]
end ZZ
set_option Elab.async false
set_option linter.all false
set_option maxRecDepth 100000
set_option maxHeartbeats 4000000
namespace ZZ
open PySem PySem.Spec L2
open ZH PyProof.Rows
abbrev dz_0 : DefZ := { a := 265, name := "_law_mix", qual := "_law_mix", st := s__law_mix, cda := 264, clo := [], dfl := none, kwd := none }
abbrev dz_1 : DefZ := { a := 272, name := "_law_pool", qual := "_law_pool", st := s__law_pool, cda := 271, clo := [], dfl := none, kwd := none }
abbrev dz_2 : DefZ := { a := 279, name := "_law_draw", qual := "_law_draw", st := s__law_draw, cda := 278, clo := [], dfl := none, kwd := none }
abbrev dz_3 : DefZ := { a := 286, name := "_law_number", qual := "_law_number", st := s__law_number, cda := 285, clo := [], dfl := none, kwd := none }
abbrev dz_4 : DefZ := { a := 293, name := "_law_whole", qual := "_law_whole", st := s__law_whole, cda := 292, clo := [], dfl := none, kwd := none }
abbrev dz_5 : DefZ := { a := 298, name := "_law_kin", qual := "_law_kin", st := s__law_kin, cda := 297, clo := [], dfl := none, kwd := none }
abbrev dz_6 : DefZ := { a := 303, name := "_law_plain", qual := "_law_plain", st := s__law_plain, cda := 302, clo := [], dfl := none, kwd := none }
abbrev dz_7 : DefZ := { a := 310, name := "_law_bare", qual := "_law_bare", st := s__law_bare, cda := 309, clo := [], dfl := none, kwd := none }
abbrev dz_8 : DefZ := { a := 317, name := "_law_values", qual := "_law_values", st := s__law_values, cda := 316, clo := [], dfl := none, kwd := none }
abbrev dz_9 : DefZ := { a := 324, name := "law", qual := "law", st := s_law, cda := 323, clo := [], dfl := none, kwd := none }
abbrev dz_10 : DefZ := { a := 53, name := "__init__", qual := "BadLayer.__init__", st := s_BadLayer___init__, cda := 52, clo := [], dfl := none, kwd := none }
abbrev dz_11 : DefZ := { a := 72, name := "__init__", qual := "BadJoint.__init__", st := s_BadJoint___init__, cda := 71, clo := [], dfl := none, kwd := none }
abbrev dz_12 : DefZ := { a := 91, name := "__init__", qual := "NoLayer.__init__", st := s_NoLayer___init__, cda := 90, clo := [], dfl := none, kwd := none }
abbrev dz_13 : DefZ := { a := 110, name := "__init__", qual := "NoJoint.__init__", st := s_NoJoint___init__, cda := 109, clo := [], dfl := none, kwd := none }
abbrev dz_14 : DefZ := { a := 129, name := "__init__", qual := "BadText.__init__", st := s_BadText___init__, cda := 128, clo := [], dfl := none, kwd := none }
abbrev dz_15 : DefZ := { a := 148, name := "__init__", qual := "BadRecord.__init__", st := s_BadRecord___init__, cda := 147, clo := [], dfl := none, kwd := none }
abbrev dz_16 : DefZ := { a := 203, name := "__init__", qual := "Clash.__init__", st := s_Clash___init__, cda := 202, clo := [], dfl := none, kwd := none }
abbrev dz_17 : DefZ := { a := 222, name := "__init__", qual := "BadNumber.__init__", st := s_BadNumber___init__, cda := 221, clo := [], dfl := none, kwd := none }
abbrev dz_18 : DefZ := { a := 253, name := "__init__", qual := "NoSaying.__init__", st := s_NoSaying___init__, cda := 252, clo := [], dfl := none, kwd := none }
abbrev dz_19 : DefZ := { a := 324, name := "law", qual := "law", st := s_law, cda := 323, clo := [], dfl := none, kwd := none }
abbrev fnl : List DefZ := [dz_0, dz_1, dz_2, dz_3, dz_4, dz_5, dz_6, dz_7, dz_8, dz_9, dz_10, dz_11, dz_12, dz_13, dz_14, dz_15, dz_16, dz_17, dz_18, dz_19]
def fb_0 : List (Fr → Bool) := [fun K => decide (PySem.W.nsIn K mainGlobals "ValueError" = some none),
  fun K => decide (PySem.W.nsIn K mainGlobals "abs" = some none),
  fun K => decide (PySem.W.nsIn K mainGlobals "bool" = some none),
  fun K => decide (PySem.W.nsIn K mainGlobals "int" = some none),
  fun K => decide (PySem.W.nsIn K mainGlobals "isinstance" = some none),
  fun K => decide (PySem.W.nsIn K mainGlobals "len" = some none),
  fun K => decide (PySem.W.nsIn K mainGlobals "min" = some none),
  fun K => decide (PySem.W.nsIn K mainGlobals "range" = some none),
  fun K => decide (PySem.W.nsIn K mainGlobals "_law_mix" = some (some (.ref 265))),
  fun K => decide (PySem.W.nsIn K mainGlobals "_law_pool" = some (some (.ref 272))),
  fun K => decide (PySem.W.nsIn K mainGlobals "_law_draw" = some (some (.ref 279))),
  fun K => decide (PySem.W.nsIn K mainGlobals "_law_number" = some (some (.ref 286))),
  fun K => decide (PySem.W.nsIn K mainGlobals "_law_whole" = some (some (.ref 293))),
  fun K => decide (PySem.W.nsIn K mainGlobals "_law_kin" = some (some (.ref 298))),
  fun K => decide (PySem.W.nsIn K mainGlobals "_law_plain" = some (some (.ref 303))),
  fun K => decide (PySem.W.nsIn K mainGlobals "_law_bare" = some (some (.ref 310))),
  fun K => decide (PySem.W.nsIn K mainGlobals "_law_values" = some (some (.ref 317))),
  fun K => decide (PySem.W.nsIn K mainGlobals "law" = some (some (.ref 324))),
  fun K => decide (PySem.W.nsIn K mainGlobals "SiltError" = some (some (.ref 24))),
  fun K => decide (PySem.W.nsIn K mainGlobals "BadCore" = some (some (.ref 37))),
  fun K => PySem.W.keepIn K (.ref 37),
  fun K => decide (PySem.W.subIn K (.ref 37) (.type "BaseException") = some true),
  fun K => decide (PySem.W.typeIn K (.ref 37) = some (.type "type")),
  fun K => PySem.W.excIn K 37 [.type "ValueError", .type "Exception", .type "BaseException", .type "object"] "ValueError.__new__",
  fun K => decide (PySem.W.nsIn K mainGlobals "BadLayer" = some (some (.ref 56)))]
def fb_1 : List (Fr → Bool) := [fun K => PySem.W.keepIn K (.ref 56),
  fun K => decide (PySem.W.subIn K (.ref 56) (.type "BaseException") = some true),
  fun K => decide (PySem.W.typeIn K (.ref 56) = some (.type "type")),
  fun K => decide (PySem.W.findIn K (.ref 56) "__setattr__" = some (some (.builtin "object.__setattr__"))),
  fun K => excB K 56,
  fun K => decide (PySem.W.findIn K (.ref 56) "__init__" = some (some (.ref 53))),
  fun K => decide (PySem.W.typeIn K (.ref 53) = some (.type "function")),
  fun K => decide (PySem.W.findIn K (.ref 56) "index" = some none),
  fun K => decide (PySem.W.nsIn K mainGlobals "BadJoint" = some (some (.ref 75))),
  fun K => PySem.W.keepIn K (.ref 75),
  fun K => decide (PySem.W.subIn K (.ref 75) (.type "BaseException") = some true),
  fun K => decide (PySem.W.typeIn K (.ref 75) = some (.type "type")),
  fun K => decide (PySem.W.findIn K (.ref 75) "__setattr__" = some (some (.builtin "object.__setattr__"))),
  fun K => excB K 75,
  fun K => decide (PySem.W.findIn K (.ref 75) "__init__" = some (some (.ref 72))),
  fun K => decide (PySem.W.typeIn K (.ref 72) = some (.type "function")),
  fun K => decide (PySem.W.findIn K (.ref 75) "index" = some none),
  fun K => decide (PySem.W.nsIn K mainGlobals "NoLayer" = some (some (.ref 94))),
  fun K => PySem.W.keepIn K (.ref 94),
  fun K => decide (PySem.W.subIn K (.ref 94) (.type "BaseException") = some true),
  fun K => decide (PySem.W.typeIn K (.ref 94) = some (.type "type")),
  fun K => decide (PySem.W.findIn K (.ref 94) "__setattr__" = some (some (.builtin "object.__setattr__"))),
  fun K => excB K 94,
  fun K => decide (PySem.W.findIn K (.ref 94) "__init__" = some (some (.ref 91))),
  fun K => decide (PySem.W.typeIn K (.ref 91) = some (.type "function"))]
def fb_2 : List (Fr → Bool) := [fun K => decide (PySem.W.findIn K (.ref 94) "index" = some none),
  fun K => decide (PySem.W.nsIn K mainGlobals "NoJoint" = some (some (.ref 113))),
  fun K => PySem.W.keepIn K (.ref 113),
  fun K => decide (PySem.W.subIn K (.ref 113) (.type "BaseException") = some true),
  fun K => decide (PySem.W.typeIn K (.ref 113) = some (.type "type")),
  fun K => decide (PySem.W.findIn K (.ref 113) "__setattr__" = some (some (.builtin "object.__setattr__"))),
  fun K => excB K 113,
  fun K => decide (PySem.W.findIn K (.ref 113) "__init__" = some (some (.ref 110))),
  fun K => decide (PySem.W.typeIn K (.ref 110) = some (.type "function")),
  fun K => decide (PySem.W.findIn K (.ref 113) "index" = some none),
  fun K => decide (PySem.W.nsIn K mainGlobals "BadText" = some (some (.ref 132))),
  fun K => PySem.W.keepIn K (.ref 132),
  fun K => decide (PySem.W.subIn K (.ref 132) (.type "BaseException") = some true),
  fun K => decide (PySem.W.typeIn K (.ref 132) = some (.type "type")),
  fun K => decide (PySem.W.findIn K (.ref 132) "__setattr__" = some (some (.builtin "object.__setattr__"))),
  fun K => excB K 132,
  fun K => decide (PySem.W.findIn K (.ref 132) "__init__" = some (some (.ref 129))),
  fun K => decide (PySem.W.typeIn K (.ref 129) = some (.type "function")),
  fun K => decide (PySem.W.findIn K (.ref 132) "word" = some none),
  fun K => decide (PySem.W.nsIn K mainGlobals "BadRecord" = some (some (.ref 151))),
  fun K => PySem.W.keepIn K (.ref 151),
  fun K => decide (PySem.W.subIn K (.ref 151) (.type "BaseException") = some true),
  fun K => decide (PySem.W.typeIn K (.ref 151) = some (.type "type")),
  fun K => decide (PySem.W.findIn K (.ref 151) "__setattr__" = some (some (.builtin "object.__setattr__"))),
  fun K => excB K 151]
def fb_3 : List (Fr → Bool) := [fun K => decide (PySem.W.findIn K (.ref 151) "__init__" = some (some (.ref 148))),
  fun K => decide (PySem.W.typeIn K (.ref 148) = some (.type "function")),
  fun K => decide (PySem.W.findIn K (.ref 151) "index" = some none),
  fun K => decide (PySem.W.nsIn K mainGlobals "Unlike" = some (some (.ref 163))),
  fun K => PySem.W.keepIn K (.ref 163),
  fun K => decide (PySem.W.subIn K (.ref 163) (.type "BaseException") = some true),
  fun K => decide (PySem.W.typeIn K (.ref 163) = some (.type "type")),
  fun K => PySem.W.excIn K 163 [.type "ValueError", .type "Exception", .type "BaseException", .type "object"] "ValueError.__new__",
  fun K => decide (PySem.W.nsIn K mainGlobals "NotFitting" = some (some (.ref 175))),
  fun K => PySem.W.keepIn K (.ref 175),
  fun K => decide (PySem.W.subIn K (.ref 175) (.type "BaseException") = some true),
  fun K => decide (PySem.W.typeIn K (.ref 175) = some (.type "type")),
  fun K => PySem.W.excIn K 175 [.type "ValueError", .type "Exception", .type "BaseException", .type "object"] "ValueError.__new__",
  fun K => decide (PySem.W.nsIn K mainGlobals "NoRecord" = some (some (.ref 187))),
  fun K => PySem.W.keepIn K (.ref 187),
  fun K => decide (PySem.W.subIn K (.ref 187) (.type "BaseException") = some true),
  fun K => decide (PySem.W.typeIn K (.ref 187) = some (.type "type")),
  fun K => PySem.W.excIn K 187 [.type "ValueError", .type "Exception", .type "BaseException", .type "object"] "ValueError.__new__",
  fun K => decide (PySem.W.nsIn K mainGlobals "Clash" = some (some (.ref 206))),
  fun K => PySem.W.keepIn K (.ref 206),
  fun K => decide (PySem.W.subIn K (.ref 206) (.type "BaseException") = some true),
  fun K => decide (PySem.W.typeIn K (.ref 206) = some (.type "type")),
  fun K => decide (PySem.W.findIn K (.ref 206) "__setattr__" = some (some (.builtin "object.__setattr__"))),
  fun K => excB K 206,
  fun K => decide (PySem.W.findIn K (.ref 206) "__init__" = some (some (.ref 203)))]
def fb_4 : List (Fr → Bool) := [fun K => decide (PySem.W.typeIn K (.ref 203) = some (.type "function")),
  fun K => decide (PySem.W.findIn K (.ref 206) "first" = some none),
  fun K => decide (PySem.W.findIn K (.ref 206) "second" = some none),
  fun K => decide (PySem.W.nsIn K mainGlobals "BadNumber" = some (some (.ref 225))),
  fun K => PySem.W.keepIn K (.ref 225),
  fun K => decide (PySem.W.subIn K (.ref 225) (.type "BaseException") = some true),
  fun K => decide (PySem.W.typeIn K (.ref 225) = some (.type "type")),
  fun K => decide (PySem.W.findIn K (.ref 225) "__setattr__" = some (some (.builtin "object.__setattr__"))),
  fun K => excB K 225,
  fun K => decide (PySem.W.findIn K (.ref 225) "__init__" = some (some (.ref 222))),
  fun K => decide (PySem.W.typeIn K (.ref 222) = some (.type "function")),
  fun K => decide (PySem.W.findIn K (.ref 225) "number" = some none),
  fun K => decide (PySem.W.nsIn K mainGlobals "NoContrary" = some (some (.ref 237))),
  fun K => PySem.W.keepIn K (.ref 237),
  fun K => decide (PySem.W.subIn K (.ref 237) (.type "BaseException") = some true),
  fun K => decide (PySem.W.typeIn K (.ref 237) = some (.type "type")),
  fun K => PySem.W.excIn K 237 [.type "ValueError", .type "Exception", .type "BaseException", .type "object"] "ValueError.__new__",
  fun K => decide (PySem.W.nsIn K mainGlobals "NoSaying" = some (some (.ref 256))),
  fun K => PySem.W.keepIn K (.ref 256),
  fun K => decide (PySem.W.subIn K (.ref 256) (.type "BaseException") = some true),
  fun K => decide (PySem.W.typeIn K (.ref 256) = some (.type "type")),
  fun K => decide (PySem.W.findIn K (.ref 256) "__setattr__" = some (some (.builtin "object.__setattr__"))),
  fun K => excB K 256,
  fun K => decide (PySem.W.findIn K (.ref 256) "__init__" = some (some (.ref 253))),
  fun K => decide (PySem.W.typeIn K (.ref 253) = some (.type "function"))]
def fb_5 : List (Fr → Bool) := [fun K => decide (PySem.W.findIn K (.ref 256) "index" = some none),
  fun K => decide (PySem.W.specialIn K (.builtin "object.__class__") "__get__" = some (some (.builtin "getset_descriptor.__get__"))),
  fun K => decide (PySem.W.takesIn K (.builtin "object.__class__") = some true),
  fun K => decide (PySem.W.findIn K (.ref 37) "__getattribute__" = some (some (.builtin "BaseException.__getattribute__"))),
  fun K => decide (PySem.W.findIn K (.ref 37) "__getattr__" = some none),
  fun K => PySem.W.hasDictIn K 37,
  fun K => decide (PySem.W.findIn K (.ref 37) "__class__" = some (some (.builtin "object.__class__"))),
  fun K => decide (PySem.W.mroIn K 37 (.type "object") = some true),
  fun K => decide (PySem.W.findIn K (.ref 56) "__getattribute__" = some (some (.builtin "BaseException.__getattribute__"))),
  fun K => decide (PySem.W.findIn K (.ref 56) "__getattr__" = some none),
  fun K => PySem.W.hasDictIn K 56,
  fun K => decide (PySem.W.findIn K (.ref 56) "__class__" = some (some (.builtin "object.__class__"))),
  fun K => decide (PySem.W.mroIn K 56 (.type "object") = some true),
  fun K => decide (PySem.W.findIn K (.ref 75) "__getattribute__" = some (some (.builtin "BaseException.__getattribute__"))),
  fun K => decide (PySem.W.findIn K (.ref 75) "__getattr__" = some none),
  fun K => PySem.W.hasDictIn K 75,
  fun K => decide (PySem.W.findIn K (.ref 75) "__class__" = some (some (.builtin "object.__class__"))),
  fun K => decide (PySem.W.mroIn K 75 (.type "object") = some true),
  fun K => decide (PySem.W.findIn K (.ref 94) "__getattribute__" = some (some (.builtin "BaseException.__getattribute__"))),
  fun K => decide (PySem.W.findIn K (.ref 94) "__getattr__" = some none),
  fun K => PySem.W.hasDictIn K 94,
  fun K => decide (PySem.W.findIn K (.ref 94) "__class__" = some (some (.builtin "object.__class__"))),
  fun K => decide (PySem.W.mroIn K 94 (.type "object") = some true),
  fun K => decide (PySem.W.findIn K (.ref 113) "__getattribute__" = some (some (.builtin "BaseException.__getattribute__"))),
  fun K => decide (PySem.W.findIn K (.ref 113) "__getattr__" = some none)]
def fb_6 : List (Fr → Bool) := [fun K => PySem.W.hasDictIn K 113,
  fun K => decide (PySem.W.findIn K (.ref 113) "__class__" = some (some (.builtin "object.__class__"))),
  fun K => decide (PySem.W.mroIn K 113 (.type "object") = some true),
  fun K => decide (PySem.W.findIn K (.ref 132) "__getattribute__" = some (some (.builtin "BaseException.__getattribute__"))),
  fun K => decide (PySem.W.findIn K (.ref 132) "__getattr__" = some none),
  fun K => PySem.W.hasDictIn K 132,
  fun K => decide (PySem.W.findIn K (.ref 132) "__class__" = some (some (.builtin "object.__class__"))),
  fun K => decide (PySem.W.mroIn K 132 (.type "object") = some true),
  fun K => decide (PySem.W.findIn K (.ref 151) "__getattribute__" = some (some (.builtin "BaseException.__getattribute__"))),
  fun K => decide (PySem.W.findIn K (.ref 151) "__getattr__" = some none),
  fun K => PySem.W.hasDictIn K 151,
  fun K => decide (PySem.W.findIn K (.ref 151) "__class__" = some (some (.builtin "object.__class__"))),
  fun K => decide (PySem.W.mroIn K 151 (.type "object") = some true),
  fun K => decide (PySem.W.findIn K (.ref 163) "__getattribute__" = some (some (.builtin "BaseException.__getattribute__"))),
  fun K => decide (PySem.W.findIn K (.ref 163) "__getattr__" = some none),
  fun K => PySem.W.hasDictIn K 163,
  fun K => decide (PySem.W.findIn K (.ref 163) "__class__" = some (some (.builtin "object.__class__"))),
  fun K => decide (PySem.W.mroIn K 163 (.type "object") = some true),
  fun K => decide (PySem.W.findIn K (.ref 175) "__getattribute__" = some (some (.builtin "BaseException.__getattribute__"))),
  fun K => decide (PySem.W.findIn K (.ref 175) "__getattr__" = some none),
  fun K => PySem.W.hasDictIn K 175,
  fun K => decide (PySem.W.findIn K (.ref 175) "__class__" = some (some (.builtin "object.__class__"))),
  fun K => decide (PySem.W.mroIn K 175 (.type "object") = some true),
  fun K => decide (PySem.W.findIn K (.ref 187) "__getattribute__" = some (some (.builtin "BaseException.__getattribute__"))),
  fun K => decide (PySem.W.findIn K (.ref 187) "__getattr__" = some none)]
def fb_7 : List (Fr → Bool) := [fun K => PySem.W.hasDictIn K 187,
  fun K => decide (PySem.W.findIn K (.ref 187) "__class__" = some (some (.builtin "object.__class__"))),
  fun K => decide (PySem.W.mroIn K 187 (.type "object") = some true),
  fun K => decide (PySem.W.findIn K (.ref 206) "__getattribute__" = some (some (.builtin "BaseException.__getattribute__"))),
  fun K => decide (PySem.W.findIn K (.ref 206) "__getattr__" = some none),
  fun K => PySem.W.hasDictIn K 206,
  fun K => decide (PySem.W.findIn K (.ref 206) "__class__" = some (some (.builtin "object.__class__"))),
  fun K => decide (PySem.W.mroIn K 206 (.type "object") = some true),
  fun K => decide (PySem.W.findIn K (.ref 225) "__getattribute__" = some (some (.builtin "BaseException.__getattribute__"))),
  fun K => decide (PySem.W.findIn K (.ref 225) "__getattr__" = some none),
  fun K => PySem.W.hasDictIn K 225,
  fun K => decide (PySem.W.findIn K (.ref 225) "__class__" = some (some (.builtin "object.__class__"))),
  fun K => decide (PySem.W.mroIn K 225 (.type "object") = some true),
  fun K => decide (PySem.W.findIn K (.ref 237) "__getattribute__" = some (some (.builtin "BaseException.__getattribute__"))),
  fun K => decide (PySem.W.findIn K (.ref 237) "__getattr__" = some none),
  fun K => PySem.W.hasDictIn K 237,
  fun K => decide (PySem.W.findIn K (.ref 237) "__class__" = some (some (.builtin "object.__class__"))),
  fun K => decide (PySem.W.mroIn K 237 (.type "object") = some true),
  fun K => decide (PySem.W.findIn K (.ref 256) "__getattribute__" = some (some (.builtin "BaseException.__getattribute__"))),
  fun K => decide (PySem.W.findIn K (.ref 256) "__getattr__" = some none),
  fun K => PySem.W.hasDictIn K 256,
  fun K => decide (PySem.W.findIn K (.ref 256) "__class__" = some (some (.builtin "object.__class__"))),
  fun K => decide (PySem.W.mroIn K 256 (.type "object") = some true),
  fun K => decide (PySem.W.kitOne K (.ref 37) (.ref 37) = some true),
  fun K => decide (PySem.W.kitOne K (.ref 56) (.ref 37) = some true)]
def fb_8 : List (Fr → Bool) := [fun K => decide (PySem.W.kitOne K (.ref 75) (.ref 37) = some true),
  fun K => decide (PySem.W.kitOne K (.ref 94) (.ref 37) = some false),
  fun K => decide (PySem.W.kitOne K (.ref 113) (.ref 37) = some false),
  fun K => decide (PySem.W.kitOne K (.ref 132) (.ref 37) = some false),
  fun K => decide (PySem.W.kitOne K (.ref 151) (.ref 37) = some false),
  fun K => decide (PySem.W.kitOne K (.ref 163) (.ref 37) = some false),
  fun K => decide (PySem.W.kitOne K (.ref 175) (.ref 37) = some false),
  fun K => decide (PySem.W.kitOne K (.ref 187) (.ref 37) = some false),
  fun K => decide (PySem.W.kitOne K (.ref 206) (.ref 37) = some false),
  fun K => decide (PySem.W.kitOne K (.ref 225) (.ref 37) = some false),
  fun K => decide (PySem.W.kitOne K (.ref 237) (.ref 37) = some false),
  fun K => decide (PySem.W.kitOne K (.ref 256) (.ref 37) = some false),
  fun K => decide (PySem.W.kitOne K (.ref 37) (.ref 75) = some false),
  fun K => decide (PySem.W.kitOne K (.ref 56) (.ref 75) = some false),
  fun K => decide (PySem.W.kitOne K (.ref 75) (.ref 75) = some true),
  fun K => decide (PySem.W.kitOne K (.ref 94) (.ref 75) = some false),
  fun K => decide (PySem.W.kitOne K (.ref 113) (.ref 75) = some false),
  fun K => decide (PySem.W.kitOne K (.ref 132) (.ref 75) = some false),
  fun K => decide (PySem.W.kitOne K (.ref 151) (.ref 75) = some false),
  fun K => decide (PySem.W.kitOne K (.ref 163) (.ref 75) = some false),
  fun K => decide (PySem.W.kitOne K (.ref 175) (.ref 75) = some false),
  fun K => decide (PySem.W.kitOne K (.ref 187) (.ref 75) = some false),
  fun K => decide (PySem.W.kitOne K (.ref 206) (.ref 75) = some false),
  fun K => decide (PySem.W.kitOne K (.ref 225) (.ref 75) = some false),
  fun K => decide (PySem.W.kitOne K (.ref 237) (.ref 75) = some false)]
def fb_9 : List (Fr → Bool) := [fun K => decide (PySem.W.kitOne K (.ref 256) (.ref 75) = some false),
  fun K => decide (PySem.W.kitOne K (.ref 37) (.ref 56) = some false),
  fun K => decide (PySem.W.kitOne K (.ref 56) (.ref 56) = some true),
  fun K => decide (PySem.W.kitOne K (.ref 75) (.ref 56) = some false),
  fun K => decide (PySem.W.kitOne K (.ref 94) (.ref 56) = some false),
  fun K => decide (PySem.W.kitOne K (.ref 113) (.ref 56) = some false),
  fun K => decide (PySem.W.kitOne K (.ref 132) (.ref 56) = some false),
  fun K => decide (PySem.W.kitOne K (.ref 151) (.ref 56) = some false),
  fun K => decide (PySem.W.kitOne K (.ref 163) (.ref 56) = some false),
  fun K => decide (PySem.W.kitOne K (.ref 175) (.ref 56) = some false),
  fun K => decide (PySem.W.kitOne K (.ref 187) (.ref 56) = some false),
  fun K => decide (PySem.W.kitOne K (.ref 206) (.ref 56) = some false),
  fun K => decide (PySem.W.kitOne K (.ref 225) (.ref 56) = some false),
  fun K => decide (PySem.W.kitOne K (.ref 237) (.ref 56) = some false),
  fun K => decide (PySem.W.kitOne K (.ref 256) (.ref 56) = some false),
  fun K => decide (PySem.W.kitOne K (.ref 37) (.ref 225) = some false),
  fun K => decide (PySem.W.kitOne K (.ref 56) (.ref 225) = some false),
  fun K => decide (PySem.W.kitOne K (.ref 75) (.ref 225) = some false),
  fun K => decide (PySem.W.kitOne K (.ref 94) (.ref 225) = some false),
  fun K => decide (PySem.W.kitOne K (.ref 113) (.ref 225) = some false),
  fun K => decide (PySem.W.kitOne K (.ref 132) (.ref 225) = some false),
  fun K => decide (PySem.W.kitOne K (.ref 151) (.ref 225) = some false),
  fun K => decide (PySem.W.kitOne K (.ref 163) (.ref 225) = some false),
  fun K => decide (PySem.W.kitOne K (.ref 175) (.ref 225) = some false),
  fun K => decide (PySem.W.kitOne K (.ref 187) (.ref 225) = some false)]
def fb_10 : List (Fr → Bool) := [fun K => decide (PySem.W.kitOne K (.ref 206) (.ref 225) = some false),
  fun K => decide (PySem.W.kitOne K (.ref 225) (.ref 225) = some true),
  fun K => decide (PySem.W.kitOne K (.ref 237) (.ref 225) = some false),
  fun K => decide (PySem.W.kitOne K (.ref 256) (.ref 225) = some false),
  fun K => decide (PySem.W.kitOne K (.ref 37) (.ref 151) = some false),
  fun K => decide (PySem.W.kitOne K (.ref 56) (.ref 151) = some false),
  fun K => decide (PySem.W.kitOne K (.ref 75) (.ref 151) = some false),
  fun K => decide (PySem.W.kitOne K (.ref 94) (.ref 151) = some false),
  fun K => decide (PySem.W.kitOne K (.ref 113) (.ref 151) = some false),
  fun K => decide (PySem.W.kitOne K (.ref 132) (.ref 151) = some false),
  fun K => decide (PySem.W.kitOne K (.ref 151) (.ref 151) = some true),
  fun K => decide (PySem.W.kitOne K (.ref 163) (.ref 151) = some false),
  fun K => decide (PySem.W.kitOne K (.ref 175) (.ref 151) = some false),
  fun K => decide (PySem.W.kitOne K (.ref 187) (.ref 151) = some false),
  fun K => decide (PySem.W.kitOne K (.ref 206) (.ref 151) = some false),
  fun K => decide (PySem.W.kitOne K (.ref 225) (.ref 151) = some false),
  fun K => decide (PySem.W.kitOne K (.ref 237) (.ref 151) = some false),
  fun K => decide (PySem.W.kitOne K (.ref 256) (.ref 151) = some false),
  fun K => decide (PySem.W.kitOne K (.ref 37) (.ref 132) = some false),
  fun K => decide (PySem.W.kitOne K (.ref 56) (.ref 132) = some false),
  fun K => decide (PySem.W.kitOne K (.ref 75) (.ref 132) = some false),
  fun K => decide (PySem.W.kitOne K (.ref 94) (.ref 132) = some false),
  fun K => decide (PySem.W.kitOne K (.ref 113) (.ref 132) = some false),
  fun K => decide (PySem.W.kitOne K (.ref 132) (.ref 132) = some true),
  fun K => decide (PySem.W.kitOne K (.ref 151) (.ref 132) = some false)]
def fb_11 : List (Fr → Bool) := [fun K => decide (PySem.W.kitOne K (.ref 163) (.ref 132) = some false),
  fun K => decide (PySem.W.kitOne K (.ref 175) (.ref 132) = some false),
  fun K => decide (PySem.W.kitOne K (.ref 187) (.ref 132) = some false),
  fun K => decide (PySem.W.kitOne K (.ref 206) (.ref 132) = some false),
  fun K => decide (PySem.W.kitOne K (.ref 225) (.ref 132) = some false),
  fun K => decide (PySem.W.kitOne K (.ref 237) (.ref 132) = some false),
  fun K => decide (PySem.W.kitOne K (.ref 256) (.ref 132) = some false),
  fun K => decide (PySem.W.kitOne K (.ref 37) (.ref 206) = some false),
  fun K => decide (PySem.W.kitOne K (.ref 56) (.ref 206) = some false),
  fun K => decide (PySem.W.kitOne K (.ref 75) (.ref 206) = some false),
  fun K => decide (PySem.W.kitOne K (.ref 94) (.ref 206) = some false),
  fun K => decide (PySem.W.kitOne K (.ref 113) (.ref 206) = some false),
  fun K => decide (PySem.W.kitOne K (.ref 132) (.ref 206) = some false),
  fun K => decide (PySem.W.kitOne K (.ref 151) (.ref 206) = some false),
  fun K => decide (PySem.W.kitOne K (.ref 163) (.ref 206) = some false),
  fun K => decide (PySem.W.kitOne K (.ref 175) (.ref 206) = some false),
  fun K => decide (PySem.W.kitOne K (.ref 187) (.ref 206) = some false),
  fun K => decide (PySem.W.kitOne K (.ref 206) (.ref 206) = some true),
  fun K => decide (PySem.W.kitOne K (.ref 225) (.ref 206) = some false),
  fun K => decide (PySem.W.kitOne K (.ref 237) (.ref 206) = some false),
  fun K => decide (PySem.W.kitOne K (.ref 256) (.ref 206) = some false),
  fun K => decide (PySem.W.kitOne K (.ref 37) (.ref 237) = some false),
  fun K => decide (PySem.W.kitOne K (.ref 56) (.ref 237) = some false),
  fun K => decide (PySem.W.kitOne K (.ref 75) (.ref 237) = some false),
  fun K => decide (PySem.W.kitOne K (.ref 94) (.ref 237) = some false)]
def fb_12 : List (Fr → Bool) := [fun K => decide (PySem.W.kitOne K (.ref 113) (.ref 237) = some false),
  fun K => decide (PySem.W.kitOne K (.ref 132) (.ref 237) = some false),
  fun K => decide (PySem.W.kitOne K (.ref 151) (.ref 237) = some false),
  fun K => decide (PySem.W.kitOne K (.ref 163) (.ref 237) = some false),
  fun K => decide (PySem.W.kitOne K (.ref 175) (.ref 237) = some false),
  fun K => decide (PySem.W.kitOne K (.ref 187) (.ref 237) = some false),
  fun K => decide (PySem.W.kitOne K (.ref 206) (.ref 237) = some false),
  fun K => decide (PySem.W.kitOne K (.ref 225) (.ref 237) = some false),
  fun K => decide (PySem.W.kitOne K (.ref 237) (.ref 237) = some true),
  fun K => decide (PySem.W.kitOne K (.ref 256) (.ref 237) = some false),
  fun K => decide (PySem.W.kitOne K (.ref 37) (.ref 113) = some false),
  fun K => decide (PySem.W.kitOne K (.ref 56) (.ref 113) = some false),
  fun K => decide (PySem.W.kitOne K (.ref 75) (.ref 113) = some false),
  fun K => decide (PySem.W.kitOne K (.ref 94) (.ref 113) = some false),
  fun K => decide (PySem.W.kitOne K (.ref 113) (.ref 113) = some true),
  fun K => decide (PySem.W.kitOne K (.ref 132) (.ref 113) = some false),
  fun K => decide (PySem.W.kitOne K (.ref 151) (.ref 113) = some false),
  fun K => decide (PySem.W.kitOne K (.ref 163) (.ref 113) = some false),
  fun K => decide (PySem.W.kitOne K (.ref 175) (.ref 113) = some false),
  fun K => decide (PySem.W.kitOne K (.ref 187) (.ref 113) = some false),
  fun K => decide (PySem.W.kitOne K (.ref 206) (.ref 113) = some false),
  fun K => decide (PySem.W.kitOne K (.ref 225) (.ref 113) = some false),
  fun K => decide (PySem.W.kitOne K (.ref 237) (.ref 113) = some false),
  fun K => decide (PySem.W.kitOne K (.ref 256) (.ref 113) = some false),
  fun K => decide (PySem.W.kitOne K (.ref 37) (.ref 94) = some false)]
def fb_13 : List (Fr → Bool) := [fun K => decide (PySem.W.kitOne K (.ref 56) (.ref 94) = some false),
  fun K => decide (PySem.W.kitOne K (.ref 75) (.ref 94) = some false),
  fun K => decide (PySem.W.kitOne K (.ref 94) (.ref 94) = some true),
  fun K => decide (PySem.W.kitOne K (.ref 113) (.ref 94) = some false),
  fun K => decide (PySem.W.kitOne K (.ref 132) (.ref 94) = some false),
  fun K => decide (PySem.W.kitOne K (.ref 151) (.ref 94) = some false),
  fun K => decide (PySem.W.kitOne K (.ref 163) (.ref 94) = some false),
  fun K => decide (PySem.W.kitOne K (.ref 175) (.ref 94) = some false),
  fun K => decide (PySem.W.kitOne K (.ref 187) (.ref 94) = some false),
  fun K => decide (PySem.W.kitOne K (.ref 206) (.ref 94) = some false),
  fun K => decide (PySem.W.kitOne K (.ref 225) (.ref 94) = some false),
  fun K => decide (PySem.W.kitOne K (.ref 237) (.ref 94) = some false),
  fun K => decide (PySem.W.kitOne K (.ref 256) (.ref 94) = some false),
  fun K => decide (PySem.W.kitOne K (.ref 37) (.ref 187) = some false),
  fun K => decide (PySem.W.kitOne K (.ref 56) (.ref 187) = some false),
  fun K => decide (PySem.W.kitOne K (.ref 75) (.ref 187) = some false),
  fun K => decide (PySem.W.kitOne K (.ref 94) (.ref 187) = some false),
  fun K => decide (PySem.W.kitOne K (.ref 113) (.ref 187) = some false),
  fun K => decide (PySem.W.kitOne K (.ref 132) (.ref 187) = some false),
  fun K => decide (PySem.W.kitOne K (.ref 151) (.ref 187) = some false),
  fun K => decide (PySem.W.kitOne K (.ref 163) (.ref 187) = some false),
  fun K => decide (PySem.W.kitOne K (.ref 175) (.ref 187) = some false),
  fun K => decide (PySem.W.kitOne K (.ref 187) (.ref 187) = some true),
  fun K => decide (PySem.W.kitOne K (.ref 206) (.ref 187) = some true),
  fun K => decide (PySem.W.kitOne K (.ref 225) (.ref 187) = some false)]
def fb_14 : List (Fr → Bool) := [fun K => decide (PySem.W.kitOne K (.ref 237) (.ref 187) = some false),
  fun K => decide (PySem.W.kitOne K (.ref 256) (.ref 187) = some false),
  fun K => decide (PySem.W.kitOne K (.ref 37) (.ref 256) = some false),
  fun K => decide (PySem.W.kitOne K (.ref 56) (.ref 256) = some false),
  fun K => decide (PySem.W.kitOne K (.ref 75) (.ref 256) = some false),
  fun K => decide (PySem.W.kitOne K (.ref 94) (.ref 256) = some false),
  fun K => decide (PySem.W.kitOne K (.ref 113) (.ref 256) = some false),
  fun K => decide (PySem.W.kitOne K (.ref 132) (.ref 256) = some false),
  fun K => decide (PySem.W.kitOne K (.ref 151) (.ref 256) = some false),
  fun K => decide (PySem.W.kitOne K (.ref 163) (.ref 256) = some false),
  fun K => decide (PySem.W.kitOne K (.ref 175) (.ref 256) = some false),
  fun K => decide (PySem.W.kitOne K (.ref 187) (.ref 256) = some false),
  fun K => decide (PySem.W.kitOne K (.ref 206) (.ref 256) = some false),
  fun K => decide (PySem.W.kitOne K (.ref 225) (.ref 256) = some false),
  fun K => decide (PySem.W.kitOne K (.ref 237) (.ref 256) = some false),
  fun K => decide (PySem.W.kitOne K (.ref 256) (.ref 256) = some true),
  fun K => decide (PySem.W.kitOne K (.ref 37) (.ref 175) = some false),
  fun K => decide (PySem.W.kitOne K (.ref 56) (.ref 175) = some false),
  fun K => decide (PySem.W.kitOne K (.ref 75) (.ref 175) = some false),
  fun K => decide (PySem.W.kitOne K (.ref 94) (.ref 175) = some false),
  fun K => decide (PySem.W.kitOne K (.ref 113) (.ref 175) = some false),
  fun K => decide (PySem.W.kitOne K (.ref 132) (.ref 175) = some false),
  fun K => decide (PySem.W.kitOne K (.ref 151) (.ref 175) = some false),
  fun K => decide (PySem.W.kitOne K (.ref 163) (.ref 175) = some false),
  fun K => decide (PySem.W.kitOne K (.ref 175) (.ref 175) = some true)]
def fb_15 : List (Fr → Bool) := [fun K => decide (PySem.W.kitOne K (.ref 187) (.ref 175) = some false),
  fun K => decide (PySem.W.kitOne K (.ref 206) (.ref 175) = some false),
  fun K => decide (PySem.W.kitOne K (.ref 225) (.ref 175) = some false),
  fun K => decide (PySem.W.kitOne K (.ref 237) (.ref 175) = some false),
  fun K => decide (PySem.W.kitOne K (.ref 256) (.ref 175) = some false),
  fun K => decide (PySem.W.kitOne K (.ref 37) (.ref 24) = some true),
  fun K => decide (PySem.W.kitOne K (.ref 56) (.ref 24) = some true),
  fun K => decide (PySem.W.kitOne K (.ref 75) (.ref 24) = some true),
  fun K => decide (PySem.W.kitOne K (.ref 94) (.ref 24) = some true),
  fun K => decide (PySem.W.kitOne K (.ref 113) (.ref 24) = some true),
  fun K => decide (PySem.W.kitOne K (.ref 132) (.ref 24) = some true),
  fun K => decide (PySem.W.kitOne K (.ref 151) (.ref 24) = some true),
  fun K => decide (PySem.W.kitOne K (.ref 163) (.ref 24) = some true),
  fun K => decide (PySem.W.kitOne K (.ref 175) (.ref 24) = some true),
  fun K => decide (PySem.W.kitOne K (.ref 187) (.ref 24) = some true),
  fun K => decide (PySem.W.kitOne K (.ref 206) (.ref 24) = some true),
  fun K => decide (PySem.W.kitOne K (.ref 225) (.ref 24) = some true),
  fun K => decide (PySem.W.kitOne K (.ref 237) (.ref 24) = some true),
  fun K => decide (PySem.W.kitOne K (.ref 256) (.ref 24) = some true),
  fun K => decide (PySem.W.kitOne K (.ref 37) (.ref 163) = some false),
  fun K => decide (PySem.W.kitOne K (.ref 56) (.ref 163) = some false),
  fun K => decide (PySem.W.kitOne K (.ref 75) (.ref 163) = some false),
  fun K => decide (PySem.W.kitOne K (.ref 94) (.ref 163) = some false),
  fun K => decide (PySem.W.kitOne K (.ref 113) (.ref 163) = some false),
  fun K => decide (PySem.W.kitOne K (.ref 132) (.ref 163) = some false)]
def fb_16 : List (Fr → Bool) := [fun K => decide (PySem.W.kitOne K (.ref 151) (.ref 163) = some false),
  fun K => decide (PySem.W.kitOne K (.ref 163) (.ref 163) = some true),
  fun K => decide (PySem.W.kitOne K (.ref 175) (.ref 163) = some false),
  fun K => decide (PySem.W.kitOne K (.ref 187) (.ref 163) = some false),
  fun K => decide (PySem.W.kitOne K (.ref 206) (.ref 163) = some false),
  fun K => decide (PySem.W.kitOne K (.ref 225) (.ref 163) = some false),
  fun K => decide (PySem.W.kitOne K (.ref 237) (.ref 163) = some false),
  fun K => decide (PySem.W.kitOne K (.ref 256) (.ref 163) = some false),
  fun K => decide (PySem.W.kitOne K (.ref 37) (.type "ValueError") = some true),
  fun K => decide (PySem.W.kitOne K (.ref 56) (.type "ValueError") = some true),
  fun K => decide (PySem.W.kitOne K (.ref 75) (.type "ValueError") = some true),
  fun K => decide (PySem.W.kitOne K (.ref 94) (.type "ValueError") = some true),
  fun K => decide (PySem.W.kitOne K (.ref 113) (.type "ValueError") = some true),
  fun K => decide (PySem.W.kitOne K (.ref 132) (.type "ValueError") = some true),
  fun K => decide (PySem.W.kitOne K (.ref 151) (.type "ValueError") = some true),
  fun K => decide (PySem.W.kitOne K (.ref 163) (.type "ValueError") = some true),
  fun K => decide (PySem.W.kitOne K (.ref 175) (.type "ValueError") = some true),
  fun K => decide (PySem.W.kitOne K (.ref 187) (.type "ValueError") = some true),
  fun K => decide (PySem.W.kitOne K (.ref 206) (.type "ValueError") = some true),
  fun K => decide (PySem.W.kitOne K (.ref 225) (.type "ValueError") = some true),
  fun K => decide (PySem.W.kitOne K (.ref 237) (.type "ValueError") = some true),
  fun K => decide (PySem.W.kitOne K (.ref 256) (.type "ValueError") = some true)]
abbrev fbp_0 : Bs := [fb_0, fb_1, fb_2, fb_3, fb_4, fb_5, fb_6, fb_7, fb_8, fb_9, fb_10, fb_11, fb_12, fb_13, fb_14, fb_15, fb_16]
abbrev fbs : Bs := fbp_0
abbrev tbs : List ZH.Tab := []
def as_0 : List Addr := [3, 2, 24, 37, 56, 75, 94, 113, 132, 151, 163, 175, 187, 206, 225, 237, 256, 0, 1, 6, 17, 23, 30, 36, 42, 55, 61, 74, 80, 93, 99, 112, 118, 131, 137, 150, 156, 162, 168, 174]
def as_1 : List Addr := [180, 186, 192, 205, 211, 224, 230, 236, 242, 255, 9, 13, 16, 20, 25, 26, 27, 29, 33, 38, 39, 41, 45, 52, 53, 57, 58, 60, 64, 71, 72, 76, 77, 79, 83, 90, 91, 95, 96, 98]
def as_2 : List Addr := [102, 109, 110, 114, 115, 117, 121, 128, 129, 133, 134, 136, 140, 147, 148, 152, 153, 155, 159, 164, 165, 167, 171, 176, 177, 179, 183, 188, 189, 191, 195, 202, 203, 207, 208, 210, 214, 221, 222, 226]
def as_3 : List Addr := [227, 229, 233, 238, 239, 241, 245, 252, 253, 257, 258, 264, 265, 271, 272, 278, 279, 285, 286, 292, 293, 297, 298, 302, 303, 309, 310, 316, 317, 323, 324, 7, 11, 15, 18, 22, 28, 31, 35, 40]
def as_4 : List Addr := [43, 47, 49, 50, 54, 59, 62, 66, 68, 69, 73, 78, 81, 85, 87, 88, 92, 97, 100, 104, 106, 107, 111, 116, 119, 123, 125, 126, 130, 135, 138, 142, 144, 145, 149, 154, 157, 161, 166, 169]
def as_5 : List Addr := [173, 178, 181, 185, 190, 193, 197, 199, 200, 204, 209, 212, 216, 218, 219, 223, 228, 231, 235, 240, 243, 247, 249, 250, 254, 259, 261, 262, 266, 268, 269, 273, 275, 276, 280, 282, 283, 287, 289, 290]
def as_6 : List Addr := [294, 299, 304, 306, 307, 311, 313, 314, 318, 320, 321]
def as_all : List Addr := as_0 ++ (as_1 ++ (as_2 ++ (as_3 ++ (as_4 ++ (as_5 ++ (as_6))))))
def nm_0 : List PySem.Str := ["SiltError", "BadCore", "BadLayer", "BadJoint", "NoLayer", "NoJoint", "BadText", "BadRecord", "Unlike", "NotFitting", "NoRecord", "Clash", "BadNumber", "NoContrary", "NoSaying", "_law_mix", "_law_pool", "_law_draw", "_law_number", "_law_whole", "_law_kin", "_law_plain", "_law_bare", "_law_values"]
def nm_all : List PySem.Str := nm_0
abbrev RR : PySem.W.OpenRow := PySem.W.OpenLaw.row PySem.Challenge.rw_siltmeet_k41_errors_created
abbrev qq : Program := PySem.W.view RR.prog [26]
abbrev hkk : PySem.W.Hook := hookZ as_all fbs fnl tbs
noncomputable def obk (s : PySem.W.SharedT) : ZH.AlZ := obsZG as_all fbs fnl tbs (HandSHeadRun.getT s)
theorem obk_eq (s : PySem.W.SharedT) : obk s = hkk.obs s.abs := obsZG_eq (HandSHeadRun.getT_eq s)
/-- the run at a world -/
noncomputable abbrev rn (w : World) (os : OsState) : Option PySem.W.SharedT := HandSHeadRun.endF (HandSHeadRun.stepQ (HandSHeadRun.denQ HandSHeadRun.tabQ) RR.prog w) 30000 RR.prog w os
end ZZ
set_option Elab.async false
set_option linter.all false
set_option maxRecDepth 100000
set_option maxHeartbeats 4000000
namespace ZZ
open PySem PySem.Spec L2
open ZH
theorem ra_f (w : World) (os : OsState) : (rn (w.withFollow "special-get-raises" false) os).map (fun s => (HandSHeadRun.looksF RR.prog (PySem.W.boot_heap (w.withFollow "special-get-raises" false).params) s.abs, HandSHeadRun.seenQ qq nm_all (PySem.importedModules RR.prog.main.body) (fun s => PySem.W.xlAt qq [] s && PySem.W.recOk RR.toRowW.records s) s.abs)) = some (true, PySem.W.openGood qq nm_all) := by
  kernel_rfl
end ZZ
set_option Elab.async false
set_option linter.all false
set_option maxRecDepth 100000
set_option maxHeartbeats 4000000
namespace ZZ
open PySem PySem.Spec L2
open ZH
theorem rb_f_0 (w : World) (os : OsState) : (rn (w.withFollow "special-get-raises" false) os).map (fun s => obsZ fbp_0 fnl tbs (He.frG (HandSHeadRun.getT s) as_all)) = some (true, (valZ fnl tbs (w.withFollow "special-get-raises" false)).2) := by
  kernel_rfl
end ZZ
set_option Elab.async false
set_option linter.all false
set_option maxRecDepth 100000
set_option maxHeartbeats 4000000
namespace ZZ
open PySem PySem.Spec L2
open ZH
theorem ra_t (w : World) (os : OsState) : (rn (w.withFollow "special-get-raises" true) os).map (fun s => (HandSHeadRun.looksF RR.prog (PySem.W.boot_heap (w.withFollow "special-get-raises" true).params) s.abs, HandSHeadRun.seenQ qq nm_all (PySem.importedModules RR.prog.main.body) (fun s => PySem.W.xlAt qq [] s && PySem.W.recOk RR.toRowW.records s) s.abs)) = some (true, PySem.W.openGood qq nm_all) := by
  kernel_rfl
end ZZ
set_option Elab.async false
set_option linter.all false
set_option maxRecDepth 100000
set_option maxHeartbeats 4000000
namespace ZZ
open PySem PySem.Spec L2
open ZH
theorem rb_t_0 (w : World) (os : OsState) : (rn (w.withFollow "special-get-raises" true) os).map (fun s => obsZ fbp_0 fnl tbs (He.frG (HandSHeadRun.getT s) as_all)) = some (true, (valZ fnl tbs (w.withFollow "special-get-raises" true)).2) := by
  kernel_rfl
end ZZ
set_option Elab.async false
set_option linter.all false
set_option maxRecDepth 100000
namespace ZZ
open PySem PySem.Spec L2
/-- what a call lets out is wished for -/
def TW (X : Cx) (W : WX) : Prop := ∀ σ, PassesAt (L2N.CX X.prog X.w) X σ (WE W σ)
theorem tw_of {X : Cx} {W : WX} (t : L2N.Takes X W) : TW X W := fun σ => L2N.passAt t σ
abbrev WF : WX := fun _ _ _ _ => False
def eC (d : D) : DE := fun _ ce => .ok (.im d) ce
def eV (i : Nat) : DE := fun sl ce => match sl[i]? with
  | some (some v) => .ok v ce
  | _ => .stuck
def kStuck : DE := fun _ _ => .stuck
def asL (ce : List Cell) : Val → Option (List D)
  | .im (.lst ds) => some ds
  | .cell k => match ce[k]? with
    | some (.lst ds) => some ds
    | _ => none
  | _ => none
/-- a list or tuple that is only read -/
def asSq (ce : List Cell) : Val → Option (List D)
  | .im (.lst ds) => some ds
  | .im (.wl ds) => some ds
  | .im (.tup ds) => some ds
  | .cell k => match ce[k]? with
    | some (.lst ds) => some ds
    | _ => none
  | _ => none
abbrev LINE : Nat := 16777216
def kAdd (v u : Val) : DE := fun sl ce => match v, u with
  | .im (.int i), .im (.int j) => .ok (.im (.int (i + j))) ce
  | .im (.str a), .im (.str b) => if a.length + b.length ≤ LINE then .ok (.im (.str (a ++ b))) ce else .stuck
  | v, u => match asL ce v, asL ce u with
    | some xs, some ys => if xs.length + ys.length ≤ LINE then .ok (.im (.lst (xs ++ ys))) ce else .stuck
    | _, _ => .stuck
def kSub (v u : Val) : DE := fun _ ce => match v, u with
  | .im (.int i), .im (.int j) => .ok (.im (.int (i - j))) ce
  | _, _ => .stuck
/-- bits of a product -/
def mulOK (i j : Int) : Bool := decide (i.natAbs < 2 ^ 400000) && decide (j.natAbs < 2 ^ 400000) || (decide (i.natAbs < 2 ^ 64) || decide (j.natAbs < 2 ^ 64))
def kMul (v u : Val) : DE := fun _ ce => match v, u with
  | .im (.int i), .im (.int j) => if mulOK i j then .ok (.im (.int (i * j))) ce else .stuck
  | _, _ => .stuck
def kDiv (v u : Val) : DE := fun _ ce => match v, u with
  | .im (.int i), .im (.int j) => if 0 < j ∧ j < 1073741824 then .ok (.im (.int (i / j))) ce else .stuck
  | _, _ => .stuck
def kMod (v u : Val) : DE := fun _ ce => match v, u with
  | .im (.int i), .im (.int j) => if 0 < j then .ok (.im (.int (i % j))) ce else .stuck
  | _, _ => .stuck
def kPow (v u : Val) : DE := fun _ ce => match v, u with
  | .im (.int i), .im (.int j) => if 0 ≤ j ∧ j ≤ 1000000 ∧ i.natAbs < 2 ^ 64 then .ok (.im (.int (i ^ j.toNat))) ce else .stuck
  | _, _ => .stuck
def kCmp (g : Int → Int → Bool) (v u : Val) : DE := fun _ ce => match v, u with
  | .im (.int i), .im (.int j) => .ok (.im (.bl (g i j))) ce
  | _, _ => .stuck
abbrev kLt := kCmp fun i j => decide (i < j)
abbrev kGt := kCmp fun i j => decide (j < i)
abbrev kGe := kCmp fun i j => decide (j ≤ i)
mutual
def toPy : D → Option PyData
  | .non => some .none
  | .bl b => some (.bool b)
  | .int i => some (.int i)
  | .str s => some (.str s)
  | .tup ds => (toPys ds).map .tuple
  | .lst ds => (toPys ds).map .list
  | .wl ds => (toPys ds).map .list
  | .ins _ _ => none
  | .dct _ _ => none
def toPys : List D → Option (List PyData)
  | [] => some []
  | d :: ds => match toPy d, toPys ds with
    | some p, some ps => some (p :: ps)
    | _, _ => none
end
def asIm (ce : List Cell) : Val → Option D
  | .im d => some d
  | .cell k => match ce[k]? with
    | some (.lst ds) => some (.lst ds)
    | _ => none
  | _ => none
def pyEq (d e : D) : Option Bool := match toPy d, toPy e with
  | some p, some q => if SeqAt.shaped p = true ∧ SeqAt.shaped q = true then some (PyData.eqv p q) else none
  | _, _ => none
def kEqG (neg : Bool) (v u : Val) : DE := fun _ ce => match asIm ce v, asIm ce u with
  | some d, some e => match pyEq d e with
    | some b => .ok (.im (.bl (if neg then !b else b))) ce
    | none => .stuck
  | _, _ => .stuck
abbrev kEq := kEqG false
abbrev kNe := kEqG true
def D.isNon : D → Bool
  | .non => true
  | _ => false
def kIsN (neg : Bool) (v u : Val) : DE := fun _ ce => match v, u with
  | .im d, .im .non => .ok (.im (.bl (if neg then !d.isNon else d.isNon))) ce
  | _, _ => .stuck
def kIsB (neg : Bool) (v u : Val) : DE := fun _ ce => match v, u with
  | .im (.bl a), .im (.bl b) => .ok (.im (.bl (if neg then !decide (a = b) else decide (a = b)))) ce
  | _, _ => .stuck
def kIx (v u : Val) : DE := fun _ ce => match u with
  | .im (.int i) => match v with
    | .im (.str z) => if z.length ≤ LINE then (match atI z.cps.toList i with
      | some c => .ok (.im (.str ⟨#[c]⟩)) ce
      | none => .stuck) else .stuck
    | v => match asSq ce v with
      | some ds => match atI ds i with
        | some d => .ok (.im d) ce
        | none => .stuck
      | none => .stuck
  | _ => .stuck
def eBin (k : Val → Val → DE) (f g : DE) : DE := eBind f fun v => eBind g (k v)
def eUn (k : Val → DE) (f : DE) : DE := eBind f k
def kBool (k : Bool → DE) (v : Val) : DE := match v with
  | .im (.bl b) => k b
  | _ => kStuck
def eAnd (f g : DE) : DE := eBind f (kBool fun b => if b then g else eC (.bl false))
def eOr (f g : DE) : DE := eBind f (kBool fun b => if b then eC (.bl true) else g)
def eNot (f : DE) : DE := eBind f (kBool fun b => eC (.bl (!b)))
def eIf (c f g : DE) : DE := eBind c (kBool fun b => if b then f else g)
/-- a value as a test -/
def truV (ce : List Cell) : Val → Option Bool
  | .im .non => some false
  | .im (.bl b) => some b
  | .im (.int i) => some (i != 0)
  | .im (.str y) => if y.length ≤ LINE then some ((y.length : Int) != 0) else none
  | v => (asSq ce v).map fun ds => !ds.isEmpty
def kTru (v : Val) : DE := fun _ ce => match truV ce v with
  | some b => .ok (.im (.bl b)) ce
  | none => .stuck
def eTru (f : DE) : DE := eBind f kTru
section
variable {Z : Zy} {A A' : List Addr} {F F' H : Hp} {ce : List Cell} {sl : Sl} {σ : L2.St} {W : WX} {Q Q' : VK}
theorem asL_rd {v : Val} {x : V} {ds : List D} (so : SO Z.toZx A F ce H) (r : VRep Z A F v x) (e : asL ce v = some ds) : ∃ l vs, x = .ref l ∧ H l = some (.lst vs) ∧ Reps Z.toZx F ds vs := by
  unfold asL at e
  split at e
  · cases e
    unfold VRep Rep at r
    obtain ⟨a, vs, rfl, h1, h2⟩ := r
    exact ⟨a, vs, rfl, so.sub _ _ h1, h2⟩
  · rename_i k
    split at e
    · rename_i ds' hk
      cases e
      obtain ⟨a, h1, rfl⟩ := r
      obtain ⟨_, vs, h2, h3⟩ := so.ok k a _ h1 hk
      exact ⟨a, vs, rfl, h2, h3⟩
    · cases e
  · cases e
theorem asSq_rd {v : Val} {x : V} {ds : List D} (so : SO Z.toZx A F ce H) (r : VRep Z A F v x) (e : asSq ce v = some ds) : ∃ l vs, x = .ref l ∧ (SqL Z.K H l vs ∨ SqT Z.K H l vs) ∧ Reps Z.toZx F ds vs := by
  unfold asSq at e
  split at e
  · cases e
    unfold VRep Rep at r
    obtain ⟨a, vs, rfl, h1, h2⟩ := r
    exact ⟨a, vs, rfl, .inl (SqL.of (so.sub _ _ h1)), h2⟩
  · cases e
    unfold VRep Rep at r
    obtain ⟨a, vs, rfl, h1, h2⟩ := r
    exact ⟨a, vs, rfl, .inl (so.sub.seq h1), h2⟩
  · cases e
    unfold VRep Rep at r
    obtain ⟨a, vs, rfl, h1, h2⟩ := r
    exact ⟨a, vs, rfl, .inr (same_seqT so.sub h1), h2⟩
  · rename_i k
    split at e
    · rename_i ds' hk
      cases e
      obtain ⟨a, h1, rfl⟩ := r
      obtain ⟨_, vs, h2, h3⟩ := so.ok k a _ h1 hk
      exact ⟨a, vs, rfl, .inl (SqL.of h2), h3⟩
    · cases e
  · cases e
mutual
theorem dp_of (e : Same F H) : ∀ {d : D} {v : V} {p : PyData}, Rep Z.toZx F d v → toPy d = some p → Dp Z.K H v p
  | .non, v, p, r, t => by
    unfold Rep at r; unfold toPy at t; cases t; subst r; exact .non
  | .bl b, v, p, r, t => by
    unfold Rep at r; unfold toPy at t; cases t; subst r; exact .bl b
  | .int b, v, p, r, t => by
    unfold Rep at r; unfold toPy at t; cases t; subst r; exact .int b
  | .str b, v, p, r, t => by
    unfold Rep at r; unfold toPy at t; cases t; subst r; exact .str b
  | .tup ds, v, p, r, t => by
    unfold Rep at r; unfold toPy at t
    obtain ⟨a, vs, rfl, h1, h2⟩ := r
    cases q : toPys ds with
    | none => rw [q] at t; cases t
    | some ps => rw [q] at t; cases t; exact .tup (same_seqT e h1) (dps_of e h2 q)
  | .lst ds, v, p, r, t => by
    unfold Rep at r; unfold toPy at t
    obtain ⟨a, vs, rfl, h1, h2⟩ := r
    cases q : toPys ds with
    | none => rw [q] at t; cases t
    | some ps => rw [q] at t; cases t; exact .lst (SqL.of (e _ _ h1)) (dps_of e h2 q)
  | .wl ds, v, p, r, t => by
    unfold Rep at r; unfold toPy at t
    obtain ⟨a, vs, rfl, h1, h2⟩ := r
    cases q : toPys ds with
    | none => rw [q] at t; cases t
    | some ps => rw [q] at t; cases t; exact .lst (e.seq h1) (dps_of e h2 q)
  | .ins _ _, v, p, r, t => by
    unfold toPy at t; cases t
  | .dct _ _, v, p, r, t => by
    unfold toPy at t; cases t
theorem dps_of (e : Same F H) : ∀ {ds : List D} {vs : List V} {ps : List PyData}, Reps Z.toZx F ds vs → toPys ds = some ps → DpAll Z.K H vs ps
  | [], vs, ps, r, t => by
    rw [reps_nil_inv r]; unfold toPys at t; cases t; exact .nil
  | d :: ds, vs, ps, r, t => by
    obtain ⟨v, r', rfl, h1, h2⟩ := reps_cons_inv r
    unfold toPys at t
    split at t
    · rename_i p ps' q1 q2
      cases t
      exact .cons (dp_of e h1 q1) (dps_of e h2 q2)
    · cases t
end
theorem asIm_dp {v : Val} {x : V} {d : D} {p : PyData} (so : SO Z.toZx A F ce H) (r : VRep Z A F v x) (e : asIm ce v = some d) (t : toPy d = some p) : Dp Z.K H x p := by
  unfold asIm at e
  split at e
  · cases e
    exact dp_of so.sub r t
  · rename_i k
    split at e
    · rename_i ds' hk
      cases e
      obtain ⟨a, h1, rfl⟩ := r
      obtain ⟨_, vs, h2, h3⟩ := so.ok k a _ h1 hk
      unfold toPy at t
      cases q : toPys ds' with
      | none => rw [q] at t; cases t
      | some ps => rw [q] at t; cases t; exact .lst (SqL.of h2) (dps_of so.sub h3 q)
    · cases e
  · cases e
theorem truV_ok {v : Val} {x : V} {b : Bool} (so : SO Z.toZx A F ce H) (r : VRep Z A F v x) (e : truV ce v = some b) : TruV Z.K x H b := by
  unfold truV at e
  split at e
  · cases e; unfold VRep Rep at r; subst r; rfl
  · cases e; unfold VRep Rep at r; subst r; rfl
  · cases e; unfold VRep Rep at r; subst r; rfl
  · split at e
    · rename_i h
      cases e; unfold VRep Rep at r; subst r
      exact ⟨by rw [sizeLine_eq]; exact h, rfl⟩
    · cases e
  · cases q : asSq ce v with
    | none => rw [q] at e; cases e
    | some ds =>
      rw [q] at e
      cases e
      obtain ⟨l, vs, rfl, h1, h2⟩ := asSq_rd so r q
      have hv : (!ds.isEmpty) = !vs.isEmpty := by
        have := h2.length
        cases ds <;> cases vs <;> simp_all
      rcases h1 with h1 | h1
      · exact .inl ⟨vs, h1, by simpa using hv⟩
      · exact .inr (.inl ⟨vs, h1, by simpa using hv⟩)
theorem fin_flat {d : D} {x : V} (so : SO Z.toZx A F ce H) (h : PostE Z A F W σ Q (.ok (.im d) ce)) (r : Rep Z.toZx F d x) : Q x H :=
  h A F H x (List.prefix_refl _) (Same.refl _) so r
theorem fin_newL {ds : List D} {vs : List V} (so : SO Z.toZx A F ce H) (h : PostE Z A F W σ Q (.ok (.im (.lst ds)) ce)) (r : Reps Z.toZx F ds vs) {p : Addr} (hp : H p = none) : Q (.ref p) (upd H p (.lst vs)) := by
  refine h A (upd F p (.lst vs)) _ _ (List.prefix_refl _) (same_up (so.fnone hp)) (so.new hp) ?_
  unfold VRep Rep
  exact ⟨p, vs, rfl, upd_same, r.mono (same_up (so.fnone hp))⟩
theorem fin_newC {ds : List D} {vs : List V} (so : SO Z.toZx A F ce H) (h : PostE Z A F W σ Q (.ok (.cell ce.length) (ce ++ [.lst ds]))) (r : Reps Z.toZx F ds vs) {p : Addr} (hp : H p = none) : Q (.ref p) (upd H p (.lst vs)) := by
  refine h (A ++ [p]) F _ _ (List.prefix_append _ _) (Same.refl _) (so.newCell hp ⟨so.fnone hp, vs, upd_same, r⟩) ?_
  exact ⟨p, by rw [← so.len]; simp, rfl⟩
/-- what a rule on two values asks -/
def Ok2 (Z : Zy) (W : WX) (k : Val → Val → DE) (r : R2) : Prop := ∀ A F sl ce v u x y H σ Q, SO Z.toZx A F ce H → SL Z A F sl σ → VRep Z A F v x → VRep Z A F u y → PostE Z A F W σ Q (k v u sl ce) → r x y H Q
theorem rep_int {i : Int} {x : V} (r : VRep Z A F (.im (.int i)) x) : x = .int i := by unfold VRep Rep at r; exact r
theorem rep_bl {i : Bool} {x : V} (r : VRep Z A F (.im (.bl i)) x) : x = .bl i := by unfold VRep Rep at r; exact r
theorem rep_str {i : Str} {x : V} (r : VRep Z A F (.im (.str i)) x) : x = .str i := by unfold VRep Rep at r; exact r
theorem rep_non {x : V} (r : VRep Z A F (.im .non) x) : x = .non := by unfold VRep Rep at r; exact r
theorem repI {i : Int} : Rep Z.toZx F (.int i) (.int i) := by unfold Rep; rfl
theorem repB {i : Bool} : Rep Z.toZx F (.bl i) (.bl i) := by unfold Rep; rfl
theorem repS {i : Str} : Rep Z.toZx F (.str i) (.str i) := by unfold Rep; rfl
theorem repN : Rep Z.toZx F .non .non := by unfold Rep; rfl
end
section
variable {X : Cx} {Z : Zy} {W : WX} {a b c : Expr} {f g h : DE} {pos : Pos}
def rAddA : R2 := fun x y H Q => (∃ i j, x = .int i ∧ y = .int j ∧ Q (.int (i + j)) H) ∨ (∃ i j, x = .str i ∧ y = .str j ∧ i.length + j.length ≤ sizeLine ∧ Q (.str (i ++ j)) H) ∨ rCat x y H Q
theorem op_or2 {f : Value → Value → Sem Value} {r r' : R2} (h : OpR X f r) (h' : OpR X f r') : OpR X f (fun x y H Q => r x y H Q ∨ r' x y H Q) := by
  intro pins s σ H x y v u Q I rx ry q
  rcases q with q | q
  · exact h pins s σ H x y v u Q I rx ry q
  · exact h' pins s σ H x y v u Q I rx ry q
theorem op_addA : OpR X (binaryOp .Add) rAddA := op_or2 op_add (op_or2 op_add_str op_cat)
theorem ok_add : Ok2 Z W kAdd rAddA := by
  intro A F sl ce v u x y H σ Q so hs rv ru p
  unfold kAdd at p
  split at p
  · exact .inl ⟨_, _, rep_int rv, rep_int ru, fin_flat so p repI⟩
  · split at p
    · rename_i hl
      exact .inr (.inl ⟨_, _, rep_str rv, rep_str ru, by rw [sizeLine_eq]; exact hl, fin_flat so p repS⟩)
    · exact p.elim
  · split at p
    · rename_i xs ys e1 e2
      split at p
      · rename_i hl
        obtain ⟨l, vs, rfl, h1, h2⟩ := asL_rd so rv e1
        obtain ⟨l', vs', rfl, h1', h2'⟩ := asL_rd so ru e2
        exact .inr (.inr ⟨l, l', vs, vs', rfl, rfl, h1, h1', by rw [sizeLine_eq, ← h2.length, ← h2'.length]; exact hl, fun p' hp => fin_newL so p (h2.append h2') hp⟩)
      · exact p.elim
    · exact p.elim
theorem ok_int {k : Val → Val → DE} {C : Int → Int → Prop} {g : Int → Int → D} {gv : Int → Int → V} (hk : ∀ v u sl ce, (∃ i j, v = .im (.int i) ∧ u = .im (.int j) ∧ C i j ∧ k v u sl ce = .ok (.im (g i j)) ce) ∨ k v u sl ce = .stuck)
    (hg : ∀ F i j, Rep Z.toZx F (g i j) (gv i j)) : Ok2 Z W k (rI C gv) := by
  intro A F sl ce v u x y H σ Q so hs rv ru p
  rcases hk v u sl ce with ⟨i, j, rfl, rfl, hc, e⟩ | e
  · rw [e] at p
    exact ⟨i, j, rep_int rv, rep_int ru, hc, fin_flat so p (hg _ _ _)⟩
  · rw [e] at p
    exact p.elim
theorem op_rI0 {f : Value → Value → Sem Value} {g : Int → Int → V} (h : OpR X f (rI0 g)) : OpR X f (rI (fun _ _ => True) g) := by
  intro pins s σ H x y v u Q I rx ry ⟨i, j, e1, e2, _, q⟩
  exact h pins s σ H x y v u Q I rx ry ⟨i, j, e1, e2, q⟩
theorem ok_cmp {g : Int → Int → Bool} : Ok2 Z W (kCmp g) (rI (fun _ _ => True) fun i j => .bl (g i j)) := ok_int (g := fun i j => .bl (g i j)) (fun v u sl ce => by
  unfold kCmp; split
  · exact .inl ⟨_, _, rfl, rfl, trivial, rfl⟩
  · exact .inr rfl) fun _ _ _ => repB
def CMulA (i j : Int) : Prop := CMul i j ∨ CMulW i j
theorem op_mulA : OpR X (binaryOp .Mult) (rI CMulA fun i j => .int (i * j)) := by
  intro pins s σ H x y v u Q I rx ry ⟨i, j, e1, e2, hc, q⟩
  rcases hc with hc | hc
  · exact op_mul pins s σ H x y v u Q I rx ry ⟨i, j, e1, e2, hc, q⟩
  · exact op_mulW pins s σ H x y v u Q I rx ry ⟨i, j, e1, e2, hc, q⟩
theorem mulOK_ok {i j : Int} (h : mulOK i j = true) : CMulA i j := by
  unfold mulOK at h
  simp only [Bool.or_eq_true, Bool.and_eq_true, decide_eq_true_eq] at h
  rcases h with ⟨h1, h2⟩ | h | h
  · exact .inr (wide_mul h1 h2 (by decide) (by decide) (by decide))
  · exact .inl (.inl (by constructor <;> omega))
  · exact .inl (.inr (by constructor <;> omega))
theorem ok_mul : Ok2 Z W kMul (rI CMulA fun i j => .int (i * j)) := ok_int (g := fun i j => .int (i * j)) (fun v u sl ce => by
  unfold kMul; split
  · split
    · rename_i h
      exact .inl ⟨_, _, rfl, rfl, mulOK_ok h, rfl⟩
    · exact .inr rfl
  · exact .inr rfl) fun _ _ _ => repI
theorem ok_div : Ok2 Z W kDiv (rI CDiv fun i j => .int (i / j)) := ok_int (g := fun i j => .int (i / j)) (fun v u sl ce => by
  unfold kDiv; split
  · split
    · rename_i h
      exact .inl ⟨_, _, rfl, rfl, h, rfl⟩
    · exact .inr rfl
  · exact .inr rfl) fun _ _ _ => repI
theorem ok_mod : Ok2 Z W kMod (rI (fun _ j => 0 < j) fun i j => .int (i % j)) := ok_int (g := fun i j => .int (i % j)) (fun v u sl ce => by
  unfold kMod; split
  · split
    · rename_i h
      exact .inl ⟨_, _, rfl, rfl, h, rfl⟩
    · exact .inr rfl
  · exact .inr rfl) fun _ _ _ => repI
theorem ok_pow : Ok2 Z W kPow (rI CPow fun i j => .int (i ^ j.toNat)) := ok_int (g := fun i j => .int (i ^ j.toNat)) (fun v u sl ce => by
  unfold kPow; split
  · split
    · rename_i h
      exact .inl ⟨_, _, rfl, rfl, h, rfl⟩
    · exact .inr rfl
  · exact .inr rfl) fun _ _ _ => repI
theorem ok_eqG (neg : Bool) : Ok2 Z W (kEqG neg) (fun x y H Q => ∃ d e, Dp Z.K H x d ∧ Dp Z.K H y e ∧ SeqAt.shaped d = true ∧ SeqAt.shaped e = true ∧ Q (.bl (if neg then !PyData.eqv d e else PyData.eqv d e)) H) := by
  intro A F sl ce v u x y H σ Q so hs rv ru p
  unfold kEqG at p
  split at p
  · rename_i d e e1 e2
    unfold pyEq at p
    cases t1 : toPy d with
    | none => simp only [t1] at p; exact p.elim
    | some p1 =>
      cases t2 : toPy e with
      | none => simp only [t1, t2] at p; exact p.elim
      | some p2 =>
        simp only [t1, t2] at p
        by_cases hs : SeqAt.shaped p1 = true ∧ SeqAt.shaped p2 = true
        · rw [if_pos hs] at p
          exact ⟨p1, p2, asIm_dp so rv e1 t1, asIm_dp so ru e2 t2, hs.1, hs.2, fin_flat so p repB⟩
        · rw [if_neg hs] at p
          exact p.elim
  · exact p.elim
theorem ok_eq : Ok2 Z W kEq (rEqD Z.K) := ok_eqG false
theorem ok_ne : Ok2 Z W kNe (rNeD Z.K) := ok_eqG true
theorem rep_isNon {F : Hp} {d : D} {x : V} (r : Rep Z.toZx F d x) : decide (x = .non) = d.isNon := by
  cases d <;> unfold Rep at r <;> first | (subst r; rfl) | (obtain ⟨a, o, k, v, rfl, _⟩ := r; rfl) | (obtain ⟨a, vs, rfl, _⟩ := r; rfl) | (obtain ⟨a, dx, fs, rfl, _⟩ := r; rfl)
theorem ok_isN (neg : Bool) : Ok2 Z W (kIsN neg) (fun x y H Q => y = .non ∧ Q (.bl (if neg then !decide (x = .non) else decide (x = .non))) H) := by
  intro A F sl ce v u x y H σ Q so hs rv ru p
  unfold kIsN at p
  split at p
  · refine ⟨rep_non ru, ?_⟩
    rw [rep_isNon rv]
    exact fin_flat so p repB
  · exact p.elim
theorem atI_reps {F : Hp} {ds : List D} {vs : List V} {i : Int} {d : D} (r : Reps Z.toZx F ds vs) (e : atI ds i = some d) : ∃ x, atI vs i = some x ∧ Rep Z.toZx F d x := by
  unfold atI at e ⊢
  rw [← r.length]
  cases q : ixN ds.length i with
  | none => rw [q] at e; cases e
  | some j =>
    rw [q] at e
    exact r.get' e
theorem ok_ix : Ok2 Z W kIx (rIx Z.K) := by
  intro A F sl ce v u x y H σ Q so hs rv ru p
  unfold kIx at p
  split at p
  · split at p
    · split at p
      · rename_i hl
        split at p
        · rename_i c hc
          exact .inr (.inr ⟨_, _, c, rep_str rv, rep_int ru, by rw [sizeLine_eq]; exact hl, hc, fin_flat so p repS⟩)
        · exact p.elim
      · exact p.elim
    · split at p
      · rename_i ds e1
        split at p
        · rename_i d e2
          obtain ⟨l, vs, rfl, h1, h2⟩ := asSq_rd so rv e1
          obtain ⟨x, e3, r3⟩ := atI_reps h2 e2
          rcases h1 with h1 | h1
          · exact .inl ⟨l, vs, _, x, rfl, rep_int ru, h1, e3, fin_flat so p r3⟩
          · exact .inr (.inl ⟨l, vs, _, x, rfl, rep_int ru, h1, e3, fin_flat so p r3⟩)
        · exact p.elim
      · exact p.elim
  · exact p.elim
theorem de_c {d : D} {v : V} {e : Expr} (h : PE X e (tC v)) (r : ∀ F, Rep Z.toZx F d v) : PE X e (tE Z W (eC d)) := h.weak fun σ H Q ⟨A, F, sl, ce, so, hs, p⟩ => fin_flat so p (r F)
theorem de_int {i j} : PE X (.Constant (.int i) j pos) (tE Z W (eC (.int i))) := de_c pe_int fun _ => repI
theorem de_str {i j} : PE X (.Constant (.str i) j pos) (tE Z W (eC (.str i))) := de_c pe_str fun _ => repS
theorem de_bl {i j} : PE X (.Constant (.bool i) j pos) (tE Z W (eC (.bl i))) := de_c pe_bl fun _ => repB
theorem de_non {j} : PE X (.Constant .none j pos) (tE Z W (eC .non)) := de_c pe_non fun _ => repN
theorem de_var {e : Expr} {i : Nat} (h : PE X e (tVar i)) : PE X e (tE Z W (eV i)) := h.weak fun σ H Q ⟨A, F, sl, ce, so, hs, p⟩ => by
  unfold eV at p
  split at p
  · rename_i v e
    obtain ⟨x, h1, h2⟩ := hs.is i v e
    exact ⟨x, h1, p A F H x (List.prefix_refl _) (Same.refl _) so h2⟩
  · exact p.elim
theorem dv (i : Nat) {x : Str} {pos : Pos} (hN : X.N[i]? = some x := by rfl) (hv : Vis X.env.scope x := by first | exact Or.inl rfl | exact Or.inr (Or.inl rfl) | exact Or.inr (Or.inr rfl)) (hd : (x == ("__debug__" : Str)) = false := by decide)
    (hcd : (x == ("__classdict__" : Str)) = false := by decide) : PE X (.Name x pos) (tE Z W (eV i)) := de_var (pe_var hN hv hd hcd)
theorem t2 {k : Val → Val → DE} {r : R2} (hk : Ok2 Z W k r) {σ : L2.St} {H : Hp} {Q : VK} (h : tE Z W (eBin k f g) σ H Q) : tE Z W f σ H fun x H1 => tE Z W g σ H1 fun y H2 => r x y H2 Q :=
  tE_imp (fun x H1 h1 => tE_imp (fun y H2 ⟨A, F, sl, ce, v, u, so, hs, rv, ru, p⟩ => hk A F sl ce v u x y H2 σ Q so hs rv ru p) h1) (tE2 h)
theorem de_op {op : Operator} {k : Val → Val → DE} {r : R2} (ho : OpR X (binaryOp op) r) (hk : Ok2 Z W k r) (ha : PE X a (tE Z W f)) (hb : PE X b (tE Z W g)) : PE X (.BinOp a op b pos) (tE Z W (eBin k f g)) :=
  (pe_op ho ha hb).weak fun σ H Q h => t2 hk h
theorem de_add (ha : PE X a (tE Z W f)) (hb : PE X b (tE Z W g)) : PE X (.BinOp a .Add b pos) (tE Z W (eBin kAdd f g)) := de_op op_addA ok_add ha hb
theorem de_mul (ha : PE X a (tE Z W f)) (hb : PE X b (tE Z W g)) : PE X (.BinOp a .Mult b pos) (tE Z W (eBin kMul f g)) := de_op op_mulA ok_mul ha hb
theorem de_div (ha : PE X a (tE Z W f)) (hb : PE X b (tE Z W g)) : PE X (.BinOp a .FloorDiv b pos) (tE Z W (eBin kDiv f g)) := de_op op_fdiv ok_div ha hb
theorem de_mod (ha : PE X a (tE Z W f)) (hb : PE X b (tE Z W g)) : PE X (.BinOp a .Mod b pos) (tE Z W (eBin kMod f g)) := de_op op_mod ok_mod ha hb
theorem de_pow (ha : PE X a (tE Z W f)) (hb : PE X b (tE Z W g)) : PE X (.BinOp a .Pow b pos) (tE Z W (eBin kPow f g)) := de_op op_pow ok_pow ha hb
theorem de_cmp {op : CmpOp} {k : Val → Val → DE} {r : R2} (ho : OpR X (compareOp op) r) (hk : Ok2 Z W k r) (ha : PE X a (tE Z W f)) (hb : PE X b (tE Z W g)) (hm : behindInMarks op b = false) : PE X (.Compare a [op] [b] pos) (tE Z W (eBin k f g)) :=
  (pe_cmpR ho ha hb hm).weak fun σ H Q h => t2 hk h
/-- a comparison's rule: what it is on values -/
structure CmpK (X : Cx) (Z : Zy) (W : WX) (op : CmpOp) (k : Val → Val → DE) : Prop where
  ex : ∃ r, OpR X (compareOp op) r ∧ Ok2 Z W k r
theorem c_lt : CmpK X Z W .Lt kLt := ⟨_, op_rI0 op_lt, ok_cmp⟩
theorem c_gt : CmpK X Z W .Gt kGt := ⟨_, op_rI0 op_gt, ok_cmp⟩
theorem c_ge : CmpK X Z W .GtE kGe := ⟨_, op_rI0 op_ge, ok_cmp⟩
theorem c_eq {k : Nat} (hK : X.K = Z.K) (hr : Room k X.A) : CmpK X Z W .Eq kEq := ⟨rEqD Z.K, by rw [← hK]; exact op_eqD hr.units, ok_eq⟩
theorem c_ne {k : Nat} (hK : X.K = Z.K) (hr : Room k X.A) : CmpK X Z W .NotEq kNe := ⟨rNeD Z.K, by rw [← hK]; exact op_neD hr.units, ok_ne⟩
theorem c_isN : CmpK X Z W .Is (kIsN false) := ⟨_, op_isN, ok_isN false⟩
theorem de_cmpK {op : CmpOp} {k : Val → Val → DE} (c : CmpK X Z W op k) (ha : PE X a (tE Z W f)) (hb : PE X b (tE Z W g)) (hm : behindInMarks op b = false := by first | exact nomark _ (by decide) (by decide) | rfl) : PE X (.Compare a [op] [b] pos) (tE Z W (eBin k f g)) := by
  obtain ⟨r, ho, hk⟩ := c.ex
  exact de_cmp ho hk ha hb hm
theorem de_ix (hK : X.K = Z.K) (ha : PE X a (tE Z W f)) (hb : PE X b (tE Z W g)) (hs : PlainIx b := by exact fun _ _ => rfl) : PE X (.Subscript a b pos) (tE Z W (eBin kIx f g)) :=
  (pe_ix (r := rIx Z.K) (by rw [← hK]; exact ix_seq) ha hb hs).weak fun σ H Q h => t2 ok_ix h
/-- and, or, not, if: values that are bools -/
theorem PostE.bool {A F σ Q} {k : Bool → DE} {v : Val} {x : V} {sl ce} (r : VRep Z A F v x) (p : PostE Z A F W σ Q (kBool k v sl ce)) : ∃ b, x = .bl b ∧ PostE Z A F W σ Q (k b sl ce) := by
  unfold kBool at p
  split at p
  · exact ⟨_, rep_bl r, p⟩
  · exact p.elim
theorem de_and {rest} (ha : PE X a (tE Z W f)) (hb : PE X (.BoolOp .And (b :: rest) pos) (tE Z W g)) : PE X (.BoolOp .And (a :: b :: rest) pos) (tE Z W (eAnd f g)) :=
  (pe_and ha hb).weak fun σ H Q h => tE_imp (fun x H1 ⟨A, F, sl, ce, v, so, hs, r, p⟩ => by
    obtain ⟨b, rfl, p⟩ := p.bool r
    refine ⟨b, rfl, ?_⟩
    cases b with
    | true => exact iteT ⟨A, F, sl, ce, so, hs, p⟩
    | false => exact iteF (fin_flat so p repB)) (tE1 h)
theorem de_one {op} (h : PE X a (tE Z W f)) : PE X (.BoolOp op [a] pos) (tE Z W f) := pe_one h
theorem de_not (ha : PE X a (tE Z W f)) : PE X (.UnaryOp .Not a pos) (tE Z W (eNot f)) :=
  (pe_not ha).weak fun σ H Q h => tE_imp (fun x H1 ⟨A, F, sl, ce, v, so, hs, r, p⟩ => by
    obtain ⟨b, rfl, p⟩ := p.bool r
    exact ⟨b, rfl, fin_flat so p repB⟩) (tE1 h)
/-- a test -/
def tT (Z : Zy) (W : WX) (f : DE) : TT := fun σ H Q => tE Z W f σ H fun x H' => ∃ b, x = .bl b ∧ Q b H'
theorem dt_val {e : Expr} (h : PE X e (tE Z W f)) (he : ∀ whole, isTrue e X.env whole = (do let v ← whole; standAt e.pos; holding [v] (truthy v)) := by intro _; rfl) : PT X e (tT Z W f) := pt_val h he
theorem dt_cmp {op : CmpOp} {k : Val → Val → DE} (c : CmpK X Z W op k) (ha : PE X a (tE Z W f)) (hb : PE X b (tE Z W g)) (hm : behindInMarks op b = false := by first | exact nomark _ (by decide) (by decide) | rfl) : PT X (.Compare a [op] [b] pos) (tT Z W (eBin k f g)) := by
  obtain ⟨r, ho, hk⟩ := c.ex
  exact (pt_cmpR ho ha hb hm).weak fun σ H Q h => t2 hk h
theorem dt_tru {e : Expr} (hK : X.K = Z.K) (h : PE X e (tE Z W f)) (he : ∀ whole, isTrue e X.env whole = (do let v ← whole; standAt e.pos; holding [v] (truthy v)) := by intro _; rfl) : PT X e (tT Z W (eTru f)) :=
  (pt_truth h he).weak fun σ H Q q => tE_imp (fun x H1 ⟨A, F, sl, ce, v, so, hs, r, p⟩ => by
    unfold kTru at p
    split at p
    · rename_i b e
      obtain ⟨k, e2, q⟩ := fin_flat so p repB
      cases e2
      exact ⟨b, by rw [hK]; exact truV_ok so r e, q⟩
    · exact p.elim) (tE1 (f := f) (k := kTru) q)
theorem tT_and {σ H Q} (h : tT Z W (eAnd f g) σ H Q) : tAnd (tT Z W f) (tT Z W g) σ H Q := tE_imp (fun x H1 ⟨A, F, sl, ce, v, so, hs, r, p⟩ => by
  obtain ⟨b, rfl, p⟩ := p.bool r
  refine ⟨b, rfl, ?_⟩
  cases b with
  | true => exact iteT ⟨A, F, sl, ce, so, hs, p⟩
  | false =>
    obtain ⟨c, e, q⟩ := fin_flat so p repB
    cases e
    exact iteF q) (tE1 h)
theorem tT_or {σ H Q} (h : tT Z W (eOr f g) σ H Q) : tOr (tT Z W f) (tT Z W g) σ H Q := tE_imp (fun x H1 ⟨A, F, sl, ce, v, so, hs, r, p⟩ => by
  obtain ⟨b, rfl, p⟩ := p.bool r
  refine ⟨b, rfl, ?_⟩
  cases b with
  | true =>
    obtain ⟨c, e, q⟩ := fin_flat so p repB
    cases e
    exact iteT q
  | false => exact iteF ⟨A, F, sl, ce, so, hs, p⟩) (tE1 h)
theorem _root_.L2.PW.weak {e : Expr} {t t' : TT} (h : PW X e t) (hw : ∀ σ H Q, t' σ H Q → t σ H Q) : PW X e t' :=
  ⟨fun w pins s σ H Q I q => h.run w pins s σ H Q I (hw σ H Q q)⟩
theorem dw_and1 (ha : PT X a (tT Z W f)) : PW X (.BoolOp .And [a] pos) (tT Z W f) := pw_and1 ha
theorem dw_or1 (ha : PT X a (tT Z W f)) : PW X (.BoolOp .Or [a] pos) (tT Z W f) := pw_or1 ha
theorem dw_and {rest} (ha : PT X a (tT Z W f)) (hb : PW X (.BoolOp .And (b :: rest) pos) (tT Z W g)) : PW X (.BoolOp .And (a :: b :: rest) pos) (tT Z W (eAnd f g)) := (pw_and ha hb).weak fun _ _ _ h => tT_and h
theorem dw_or {rest} (ha : PT X a (tT Z W f)) (hb : PW X (.BoolOp .Or (b :: rest) pos) (tT Z W g)) : PW X (.BoolOp .Or (a :: b :: rest) pos) (tT Z W (eOr f g)) := (pw_or ha hb).weak fun _ _ _ h => tT_or h
theorem dt_not (ha : PT X a (tT Z W f)) : PT X (.UnaryOp .Not a pos) (tT Z W (eNot f)) := (pt_not ha).weak fun σ H Q h => tE_imp (fun x H1 ⟨A, F, sl, ce, v, so, hs, r, p⟩ => by
  obtain ⟨b, rfl, p⟩ := p.bool r
  obtain ⟨c, e, q⟩ := fin_flat so p repB
  cases e
  exact ⟨b, rfl, q⟩) (tE1 (f := f) (k := kBool fun b => eC (.bl (!b))) h)
end
end ZZ
set_option Elab.async false
set_option linter.all false
set_option maxRecDepth 100000
namespace ZZ
open PySem PySem.Spec L2
def eArgs : List DE → (List Val → DE) → DE
  | [], k => k []
  | f :: fs, k => eBind f fun v => eArgs fs fun vs => k (v :: vs)
def tArgs (Z : Zy) (W : WX) : List DE → TA
  | [] => tNil
  | f :: fs => tCons (tE Z W f) (tArgs Z W fs)
def VReps (Z : Zy) (A : List Addr) (F : Hp) : List Val → List V → Prop
  | [], xs => xs = []
  | v :: vs, xs => ∃ x r, xs = x :: r ∧ VRep Z A F v x ∧ VReps Z A F vs r
section
variable {Z : Zy} {A A' : List Addr} {F F' H : Hp} {ce : List Cell} {sl : Sl} {σ : L2.St} {W : WX} {Q Q' : VK}
theorem VReps.length : ∀ {vs : List Val} {xs : List V}, VReps Z A F vs xs → vs.length = xs.length
  | [], xs, h => by unfold VReps at h; subst h; rfl
  | v :: vs, xs, h => by
    obtain ⟨x, r, rfl, _, h2⟩ := h
    simp [VReps.length h2]
theorem VReps.mono (p : A <+: A') (e : Same F F') : ∀ {vs : List Val} {xs : List V}, VReps Z A F vs xs → VReps Z A' F' vs xs
  | [], xs, h => h
  | v :: vs, xs, h => by
    obtain ⟨x, r, rfl, h1, h2⟩ := h
    exact ⟨x, r, rfl, h1.mono p e, VReps.mono p e h2⟩
theorem vreps1 {v : Val} {xs : List V} (h : VReps Z A F [v] xs) : ∃ x, xs = [x] ∧ VRep Z A F v x := by
  obtain ⟨x, r, rfl, h1, h2⟩ := h
  unfold VReps at h2
  subst h2
  exact ⟨x, rfl, h1⟩
theorem vreps2 {v u : Val} {xs : List V} (h : VReps Z A F [v, u] xs) : ∃ x y, xs = [x, y] ∧ VRep Z A F v x ∧ VRep Z A F u y := by
  obtain ⟨x, r, rfl, h1, h2⟩ := h
  replace h2 := vreps1 h2; obtain ⟨y, rfl, h2⟩ := h2
  exact ⟨x, y, rfl, h1, h2⟩
theorem tArgs_imp : ∀ {fs : List DE} {σ : L2.St} {H : Hp} {Q Q' : List V → Hp → Prop}, (∀ x H, Q x H → Q' x H) → tArgs Z W fs σ H Q → tArgs Z W fs σ H Q'
  | [], _, _, _, _, h, q => h _ _ q
  | f :: fs, _, _, _, _, h, q => tE_imp (fun x H1 q1 => tArgs_imp (fun xs H2 q2 => h _ _ q2) q1) q
theorem tArgs_ok : ∀ {fs : List DE} {k : List Val → DE} {A : List Addr} {F H : Hp} {ce : List Cell}, SO Z.toZx A F ce H → SL Z A F sl σ → PostE Z A F W σ Q (eArgs fs k sl ce) →
    tArgs Z W fs σ H fun xs H1 => ∃ A1 F1 ce1 vs, A <+: A1 ∧ Same F F1 ∧ SO Z.toZx A1 F1 ce1 H1 ∧ VReps Z A1 F1 vs xs ∧ vs.length = fs.length ∧ PostE Z A1 F1 W σ Q (k vs sl ce1)
  | [], k, A, F, H, ce, so, hs, p => ⟨A, F, ce, [], List.prefix_refl _, Same.refl _, so, rfl, rfl, p⟩
  | f :: fs, k, A, F, H, ce, so, hs, p => ⟨A, F, sl, ce, so, hs, (PostE.bind so hs p).imp fun x H1 ⟨A1, F1, ce1, v, p1, e1, s1, r1, q1⟩ =>
      tArgs_imp (fun xs H2 ⟨A2, F2, ce2, vs, p2, e2, s2, r2, l2, q2⟩ => ⟨A2, F2, ce2, v :: vs, p1.trans p2, e1.trans e2, s2, ⟨x, xs, rfl, r1.mono p2 e2, r2⟩, by simp [l2], q2⟩) (tArgs_ok s1 (hs.mono p1 e1) q1)⟩
theorem tN {fs : List DE} {k : List Val → DE} (h : tE Z W (eArgs fs k) σ H Q) :
    tArgs Z W fs σ H fun xs H1 => ∃ A F sl ce vs, SO Z.toZx A F ce H1 ∧ SL Z A F sl σ ∧ VReps Z A F vs xs ∧ vs.length = fs.length ∧ PostE Z A F W σ Q (k vs sl ce) := by
  obtain ⟨A, F, sl, ce, so, hs, p⟩ := h
  exact tArgs_imp (fun xs H2 ⟨A2, F2, ce2, vs, p2, e2, s2, r2, l2, q2⟩ => ⟨A2, F2, sl, ce2, vs, s2, hs.mono p2 e2, r2, l2, q2⟩) (tArgs_ok so hs p)
def ims : List Val → Option (List D)
  | [] => some []
  | .im d :: vs => (ims vs).map (d :: ·)
  | _ :: _ => none
theorem ims_rd : ∀ {vs : List Val} {xs : List V} {ds : List D}, VReps Z A F vs xs → ims vs = some ds → Reps Z.toZx F ds xs
  | [], xs, ds, r, e => by
    unfold VReps at r; subst r; cases e; exact reps_nil
  | .im d :: vs, xs, ds, r, e => by
    obtain ⟨x, r', rfl, h1, h2⟩ := r
    unfold ims at e
    cases q : ims vs with
    | none => rw [q] at e; cases e
    | some es => rw [q] at e; cases e; exact reps_cons h1 (ims_rd h2 q)
  | .cell _ :: _, xs, ds, r, e => by cases e
  | .exn _ _ :: _, xs, ds, r, e => by cases e
end
def kTup (vs : List Val) : DE := fun _ ce => match ims vs with
  | some ds => if ds.length ≤ LINE then .ok (.im (.tup ds)) ce else .stuck
  | none => .stuck
def kLst (vs : List Val) : DE := fun _ ce => match ims vs with
  | some ds => if ds.length ≤ LINE then .ok (.im (.lst ds)) ce else .stuck
  | none => .stuck
def kLstC (vs : List Val) : DE := fun _ ce => match ims vs with
  | some ds => if ds.length ≤ LINE then .ok (.cell ce.length) (ce ++ [.lst ds]) else .stuck
  | none => .stuck
def OkN (Z : Zy) (W : WX) (k : List Val → DE) (r : List V → Hp → VK → Prop) : Prop := ∀ A F sl ce vs xs H σ Q, SO Z.toZx A F ce H → SL Z A F sl σ → VReps Z A F vs xs → PostE Z A F W σ Q (k vs sl ce) → r xs H Q
section
variable {X : Cx} {Z : Zy} {W : WX} {a b c : Expr} {es : List Expr} {f g h : DE} {fs : List DE} {pos : Pos}
theorem da_nil : PA X [] (tArgs Z W []) := pa_nil
theorem da_cons {e : Expr} (ha : PE X e (tE Z W f)) (hr : PA X es (tArgs Z W fs)) (hs : starEach (e :: es) X.env = (false, eval e X.env) :: starEach es X.env := by rfl) : PA X (e :: es) (tArgs Z W (f :: fs)) := pa_cons ha hr hs
theorem de_lst (ha : PA X es (tArgs Z W fs)) : PE X (.List es pos) (tE Z W (eArgs fs kLst)) := (pe_lst ha).weak fun σ H Q h => tArgs_imp (fun xs H1 ⟨A, F, sl, ce, vs, so, hs, r, _, p⟩ => by
  unfold kLst at p
  split at p
  · rename_i ds e
    have rr := ims_rd (Z := Z) r e
    split at p
    · rename_i hl
      exact ⟨by rw [sizeLine_eq, ← rr.length]; exact hl, fun q hq => fin_newL so p rr hq⟩
    · exact p.elim
  · exact p.elim) (tN h)
theorem de_lstC (ha : PA X es (tArgs Z W fs)) : PE X (.List es pos) (tE Z W (eArgs fs kLstC)) := (pe_lst ha).weak fun σ H Q h => tArgs_imp (fun xs H1 ⟨A, F, sl, ce, vs, so, hs, r, _, p⟩ => by
  unfold kLstC at p
  split at p
  · rename_i ds e
    have rr := ims_rd (Z := Z) r e
    split at p
    · rename_i hl
      exact ⟨by rw [sizeLine_eq, ← rr.length]; exact hl, fun q hq => fin_newC so p rr hq⟩
    · exact p.elim
  · exact p.elim) (tN h)
theorem de_callB {id : String} {x : Str} {p : Pos} {e : Expr} {k : List Val → DE} {r : List V → Hp → VK → Prop} (hc : CallR X (.builtin id) r) (hk : OkN Z W k r) (hm : X.mg x = none) (hv : bootBuiltins x = some (.builtin id)) (ha : PA X (e :: es) (tArgs Z W fs))
    (hg : Gl X x := by rfl) (hn : x ≠ "__name__" := by decide) (hdb : (x == ("__debug__" : Str)) = false := by decide)
    (he : starEach (e :: es) X.env = (false, eval e X.env) :: starEach es X.env := by rfl) (hpl : (backTo pos (starEach es X.env)).any (·.1) = false := by rfl) : PE X (.Call (.Name x p) (e :: es) [] pos) (tE Z W (eArgs fs k)) :=
  (pe_callB hc hg hm hv ha hn hdb he hpl).weak fun σ H Q h => tArgs_imp (fun xs H1 ⟨A, F, sl, ce, vs, so, hs, r, _, p⟩ => hk A F sl ce vs xs H1 σ Q so hs r p) (tN h)
theorem de_callTy {T : String} {x : Str} {p : Pos} {e : Expr} {k : List Val → DE} {r : List V → Hp → VK → Prop} (hc : CallR X (.type T) r) (hk : OkN Z W k r) (hm : X.mg x = none) (hv : bootBuiltins x = some (.type T)) (ha : PA X (e :: es) (tArgs Z W fs))
    (hg : Gl X x := by rfl) (hn : x ≠ "__name__" := by decide) (hdb : (x == ("__debug__" : Str)) = false := by decide)
    (he : starEach (e :: es) X.env = (false, eval e X.env) :: starEach es X.env := by rfl) (hpl : (backTo pos (starEach es X.env)).any (·.1) = false := by rfl) : PE X (.Call (.Name x p) (e :: es) [] pos) (tE Z W (eArgs fs k)) :=
  (pe_callTy hc hg hm hv ha hn hdb he hpl).weak fun σ H Q h => tArgs_imp (fun xs H1 ⟨A, F, sl, ce, vs, so, hs, r, _, p⟩ => hk A F sl ce vs xs H1 σ Q so hs r p) (tN h)
end
def kLen : List Val → DE
  | [v] => fun _ ce => match v with
    | .im (.str s) => if s.length ≤ LINE then .ok (.im (.int s.length)) ce else .stuck
    | v => match asSq ce v with
      | some ds => .ok (.im (.int ds.length)) ce
      | none => .stuck
  | _ => kStuck
def kAbs : List Val → DE
  | [.im (.int i)] => eC (.int (if i < 0 then -i else i))
  | _ => kStuck
def kMin : List Val → DE
  | [.im (.int i), .im (.int j)] => eC (.int (if j < i then j else i))
  | _ => kStuck
def kMax : List Val → DE
  | [.im (.int i), .im (.int j)] => eC (.int (if j > i then j else i))
  | _ => kStuck
def kInt : List Val → DE
  | [.im (.int i)] => eC (.int i)
  | [.im (.bl k)] => eC (.int (if k then 1 else 0))
  | _ => kStuck
section
variable {X : Cx} {Z : Zy} {W : WX} {A : List Addr} {F H : Hp} {ce : List Cell} {sl : Sl} {σ : L2.St} {Q : VK}
theorem ok_len (hK : X.K = Z.K) : OkN Z W kLen (fun xs H Q => ∃ x n, xs = [x] ∧ LenV X.K x H n ∧ Q (.int n) H) := by
  intro A F sl ce vs xs H σ Q so hs r p
  rw [hK]
  unfold kLen at p
  split at p
  · replace r := vreps1 r; obtain ⟨x, rfl, r⟩ := r
    split at p
    · split at p
      · rename_i s hl
        rw [rep_str r]
        exact ⟨_, s.length, rfl, ⟨by rw [sizeLine_eq]; exact hl, rfl⟩, fin_flat so p repI⟩
      · exact p.elim
    · split at p
      · rename_i ds e
        obtain ⟨l, ws, rfl, h1, h2⟩ := asSq_rd so r e
        refine ⟨_, ds.length, rfl, ?_, fin_flat so p repI⟩
        rcases h1 with h1 | h1
        · exact .inl ⟨ws, h1, h2.length⟩
        · exact .inr ⟨ws, h1, h2.length⟩
      · exact p.elim
  · exact p.elim
theorem ok_abs : OkN Z W kAbs (fun xs H Q => ∃ i, xs = [.int i] ∧ Q (.int (if i < 0 then -i else i)) H) := by
  intro A F sl ce vs xs H σ Q so hs r p
  unfold kAbs at p
  split at p
  · replace r := vreps1 r; obtain ⟨x, rfl, r⟩ := r
    rw [rep_int r]
    exact ⟨_, rfl, fin_flat so p repI⟩
  · exact p.elim
theorem ok_min : OkN Z W kMin (fun xs H Q => ∃ i j, xs = [.int i, .int j] ∧ Q (.int (if j < i then j else i)) H) := by
  intro A F sl ce vs xs H σ Q so hs r p
  unfold kMin at p
  split at p
  · replace r := vreps2 r; obtain ⟨x, y, rfl, r, r'⟩ := r
    rw [rep_int r, rep_int r']
    exact ⟨_, _, rfl, fin_flat so p repI⟩
  · exact p.elim
theorem ok_int1 : OkN Z W kInt (fun xs H Q => (∃ i, xs = [.int i] ∧ Q (.int i) H) ∨ ∃ k, xs = [.bl k] ∧ Q (.int (if k then 1 else 0)) H) := by
  intro A F sl ce vs xs H σ Q so hs r p
  unfold kInt at p
  split at p
  · replace r := vreps1 r; obtain ⟨x, rfl, r⟩ := r
    rw [rep_int r]
    exact .inl ⟨_, rfl, fin_flat so p repI⟩
  · replace r := vreps1 r; obtain ⟨x, rfl, r⟩ := r
    rw [rep_bl r]
    exact .inr ⟨_, rfl, fin_flat so p repI⟩
  · exact p.elim
end
def OkM (Z : Zy) (W : WX) (K : PySem.W.Frag) (T : String) (ty : List Cell → Val → Bool) (k : Val → List Val → DE) (r : V → List V → Hp → VK → Prop) : Prop :=
  (∀ A F ce v x H, SO Z.toZx A F ce H → VRep Z A F v x → ty ce v = true → tyV K T x H) ∧
  ∀ A F sl ce v x vs xs H σ Q, SO Z.toZx A F ce H → SL Z A F sl σ → VRep Z A F v x → VReps Z A F vs xs → PostE Z A F W σ Q (k v vs sl ce) → r x xs H Q
/-- the value's type is looked at, then the arguments -/
def eMth (ty : List Cell → Val → Bool) (k : Val → List Val → DE) (f : DE) (fs : List DE) : DE := eBind f fun v sl ce => if ty ce v then eArgs fs (k v) sl ce else .stuck
def tyL (ce : List Cell) (v : Val) : Bool := (asL ce v).isSome
def tyS (_ : List Cell) : Val → Bool
  | .im (.str _) => true
  | _ => false
section
variable {X : Cx} {Z : Zy} {W : WX} {o e : Expr} {es : List Expr} {f g h : DE} {fs : List DE} {pos apos cpos : Pos} {T id : String} {name : Str} {ty : List Cell → Val → Bool} {k : Val → List Val → DE} {r : V → List V → Hp → VK → Prop}
theorem de_bm (pa : PlainAttrs T) (slot : Slot T name id) (hty : typeOf (.builtin id) = pure (.type "method_descriptor")) (hm : MtR X id r) (hk : OkM Z W X.K T ty k r) (ho : PE X o (tE Z W f)) (ha : PA X (e :: es) (tArgs Z W fs))
    (hb : attributeBase o name X.env (eval o X.env) = eval o X.env := by rfl) (hl : (apos.endLine == cpos.line) = true := by rfl) (hs : starEach (e :: es) X.env = (false, eval e X.env) :: starEach es X.env := by rfl) (hpl : (backTo cpos (starEach es X.env)).any (·.1) = false := by rfl) (hfew : ((backTo cpos (starEach (e :: es) X.env)).all (fun x => !x.1) && (backToKw cpos (keywordEach [] X.env)).all (fun x => x.1.isSome)
      && decide ((e :: es).length + ([] : List Keyword).length + (if ([] : List Keyword).isEmpty then 0 else 1) < 30)) = true := by rfl) :
    PE X (.Call (.Attribute o name apos) (e :: es) [] cpos) (tE Z W (eMth ty k f fs)) := by
  refine (pe_bm pa slot hty hm ho ha hb hfew hl hs hpl).weak fun σ H Q q => tE_imp (fun x H1 ⟨A, F, sl, ce, v, so, hs, r, p⟩ => ?_) (tE1 q)
  by_cases ht : ty ce v = true
  · rw [if_pos ht] at p
    exact ⟨hk.1 A F ce v x H1 so r ht, tArgs_imp (fun xs H2 ⟨A2, F2, ce2, vs, p2, e2, s2, r2, l2, q2⟩ => hk.2 A2 F2 sl ce2 v x vs xs H2 σ Q s2 (hs.mono p2 e2) (r.mono p2 e2) r2 q2) (tArgs_ok so hs p)⟩
  · rw [if_neg ht] at p
    exact p.elim
end
section
variable {X : Cx} {Z : Zy} {W : WX}
theorem tyL_ok (hK : X.K = Z.K) : ∀ (A : List Addr) (F : Hp) (ce : List Cell) (v : Val) (x : V) (H : Hp), SO Z.toZx A F ce H → VRep Z A F v x → tyL ce v = true → tyV X.K "list" x H := by
  intro A F ce v x H so r t
  unfold tyL at t
  cases e : asL ce v with
  | none => rw [e] at t; cases t
  | some ds =>
    obtain ⟨l, ws, rfl, h1, h2⟩ := asL_rd so r e
    exact .inl ⟨rfl, ws, SqL.of h1⟩
end
def kAppend (v : Val) (vs : List Val) : DE := fun _ ce => match v, vs with
  | .cell n, [.im d] => match ce[n]? with
    | some (.lst ds) => if ds.length < LINE then .ok (.im .non) (ce.set n (.lst (ds ++ [d]))) else .stuck
    | _ => .stuck
  | _, _ => .stuck
/-- xs.pop(i) -/
def kPopAt (v : Val) (vs : List Val) : DE := fun _ ce => match v, vs with
  | .cell n, [.im (.int i)] => match ce[n]? with
    | some (.lst ds) => if -(2 ^ 63) ≤ i ∧ i < 2 ^ 63 then (match seqIndex? i ds.length with
      | some j => match ds[j]? with
        | some d => .ok (.im d) (ce.set n (.lst (ds.eraseIdx j)))
        | none => .stuck
      | none => .stuck) else .stuck
    | _ => .stuck
  | _, _ => .stuck
section
variable {X : Cx} {Z : Zy} {W : WX}
theorem cell_rd {A F ce H n x ds} (so : SO Z.toZx A F ce H) (r : VRep Z A F (.cell n) x) (hk : ce[n]? = some (.lst ds)) : ∃ l vs, A[n]? = some l ∧ x = .ref l ∧ F l = none ∧ H l = some (.lst vs) ∧ Reps Z.toZx F ds vs := by
  obtain ⟨a, h1, rfl⟩ := r
  obtain ⟨h0, vs, h2, h3⟩ := so.ok n a _ h1 hk
  exact ⟨a, vs, h1, rfl, h0, h2, h3⟩
theorem fin_write {A F ce H n l ds vs d x σ Q} (so : SO Z.toZx A F ce H) (hA : A[n]? = some l) (hF : F l = none) (r : Reps Z.toZx F ds vs) (rd : Rep Z.toZx F d x) (p : PostE Z A F W σ Q (.ok (.im d) (ce.set n (.lst ds)))) : Q x (upd H l (.lst vs)) :=
  p A F _ _ (List.prefix_refl _) (Same.refl _) (so.write hA hF ⟨hF, vs, upd_same, r⟩) rd
theorem okm_append (hK : X.K = Z.K) : OkM Z W X.K "list" tyL kAppend rAppend := by
  refine ⟨tyL_ok hK, fun A F sl ce v x vs xs H σ Q so hs rv rs p => ?_⟩
  unfold kAppend at p
  split at p
  · split at p
    · rename_i n d ds hk
      split at p
      · rename_i hl
        obtain ⟨l, ws, hA, rfl, hF, h2, h3⟩ := cell_rd so rv hk
        obtain ⟨y, rfl, ry⟩ := vreps1 rs
        exact ⟨l, ws, y, rfl, rfl, h2, by rw [sizeLine_eq, ← h3.length]; exact hl, fin_write so hA hF (h3.append (reps_cons ry reps_nil)) repN p⟩
      · exact p.elim
    · exact p.elim
  · exact p.elim
theorem okm_popAt (hK : X.K = Z.K) : OkM Z W X.K "list" tyL kPopAt rPopAt := by
  refine ⟨tyL_ok hK, fun A F sl ce v x vs xs H σ Q so hs rv rs p => ?_⟩
  unfold kPopAt at p
  split at p
  · split at p
    · rename_i n i _ ds hk
      split at p
      · rename_i hb
        split at p
        · rename_i j hj
          split at p
          · rename_i d hd
            obtain ⟨l, ws, hA, rfl, hF, h2, h3⟩ := cell_rd so rv hk
            obtain ⟨y, rfl, ry⟩ := vreps1 rs
            obtain ⟨y, hy, rd⟩ := h3.get' hd
            rw [rep_int ry]
            exact ⟨l, ws, i, j, y, rfl, rfl, h2, hb.1, hb.2, by rw [← h3.length]; exact hj, hy, fin_write so hA hF (h3.eraseIdx j) rd p⟩
          · exact p.elim
        · exact p.elim
      · exact p.elim
    · exact p.elim
  · exact p.elim
theorem de_append {o e : Expr} {f g : DE} {apos cpos : Pos} (hK : X.K = Z.K) (ho : PE X o (tE Z W f)) (ha : PE X e (tE Z W g))
    (hb : attributeBase o "append" X.env (eval o X.env) = eval o X.env := by rfl) (hl : (apos.endLine == cpos.line) = true := by rfl) (hs : starEach [e] X.env = (false, eval e X.env) :: starEach [] X.env := by rfl) (hfew : ((backTo cpos (starEach [e] X.env)).all (fun x => !x.1) && (backToKw cpos (keywordEach [] X.env)).all (fun x => x.1.isSome)
      && decide ([e].length + ([] : List Keyword).length + (if ([] : List Keyword).isEmpty then 0 else 1) < 30)) = true := by rfl) :
    PE X (.Call (.Attribute o "append" apos) [e] [] cpos) (tE Z W (eMth tyL kAppend f [g])) :=
  de_bm PySem.F.plainAttrs_list PySem.F.slot_list_append PySem.F.type_list_append mt_append (okm_append hK) ho (da_cons ha da_nil hs) hb hl hs rfl hfew
theorem de_popAt {o e : Expr} {f g : DE} {apos cpos : Pos} (hK : X.K = Z.K) (ho : PE X o (tE Z W f)) (ha : PE X e (tE Z W g))
    (hb : attributeBase o "pop" X.env (eval o X.env) = eval o X.env := by rfl) (hl : (apos.endLine == cpos.line) = true := by rfl) (hs : starEach [e] X.env = (false, eval e X.env) :: starEach [] X.env := by rfl) (hfew : ((backTo cpos (starEach [e] X.env)).all (fun x => !x.1) && (backToKw cpos (keywordEach [] X.env)).all (fun x => x.1.isSome)
      && decide ([e].length + ([] : List Keyword).length + (if ([] : List Keyword).isEmpty then 0 else 1) < 30)) = true := by rfl) :
    PE X (.Call (.Attribute o "pop" apos) [e] [] cpos) (tE Z W (eMth tyL kPopAt f [g])) :=
  de_bm PySem.F.plainAttrs_list PySem.F.slot_list_pop PySem.F.type_list_pop mt_popAt (okm_popAt hK) ho (da_cons ha da_nil hs) hb hl hs rfl hfew
end
end ZZ
set_option Elab.async false
set_option linter.all false
set_option maxRecDepth 100000
namespace ZZ
open PySem PySem.Spec L2
inductive Out where
  | nx (sl : Sl) (ce : List Cell) | rt (v : Val) (ce : List Cell) | bk (sl : Sl) (ce : List Cell) | ct (sl : Sl) (ce : List Cell)
  | exc (c : Nat) (ds : List D) (sl : Sl) (ce : List Cell) | stuck
abbrev DSt := Sl → List Cell → Out
def PostS (Z : Zy) (A : List Addr) (F : Hp) (W : WX) (D : Ends) : Out → Prop
  | .nx sl ce => ∀ A' F' H' σ', A <+: A' → Same F F' → SO Z.toZx A' F' ce H' → SL Z A' F' sl σ' → D.nx σ' H'
  | .bk sl ce => ∀ A' F' H' σ', A <+: A' → Same F F' → SO Z.toZx A' F' ce H' → SL Z A' F' sl σ' → D.bk σ' H'
  | .ct sl ce => ∀ A' F' H' σ', A <+: A' → Same F F' → SO Z.toZx A' F' ce H' → SL Z A' F' sl σ' → D.ct σ' H'
  | .rt v ce => ∀ A' F' H' x, A <+: A' → Same F F' → SO Z.toZx A' F' ce H' → VRep Z A' F' v x → D.rt x H'
  | .exc c ds sl ce => ∀ A' F' H' σ' dx, A <+: A' → Same F F' → SO Z.toZx A' F' ce H' → SL Z A' F' sl σ' → ExcOk Z.toZx F' c ds dx → W (.ref (Z.cl c)) dx σ' H'
  | .stuck => False
def tS (Z : Zy) (W : WX) (f : DSt) : TS := fun D σ H => ∃ A F sl ce, SO Z.toZx A F ce H ∧ SL Z A F sl σ ∧ PostS Z A F W D (f sl ce)
def sSeq (f g : DSt) : DSt := fun sl ce => match f sl ce with
  | .nx sl' ce' => g sl' ce'
  | o => o
def sNil : DSt := fun sl ce => .nx sl ce
def sExp (f : DE) (k : Val → DSt) : DSt := fun sl ce => match f sl ce with
  | .ok v ce' => k v sl ce'
  | .exc c ds ce' => .exc c ds sl ce'
  | .stuck => .stuck
def sSet (i : Nat) (f : DE) : DSt := sExp f fun v sl ce => .nx (sl.set i (some v)) ce
def sRet (f : DE) : DSt := sExp f fun v _ ce => .rt v ce
def sDrop (f : DE) : DSt := sExp f fun _ sl ce => .nx sl ce
def sStuck : DSt := fun _ _ => .stuck
def sIf (c : DE) (f g : DSt) : DSt := sExp c fun v => match v with
  | .im (.bl b) => if b then f else g
  | _ => sStuck
/-- a ghost step: the cell at slot i is settled -/
def frz (i : Nat) (f : DSt) : DSt := fun sl ce => match sl[i]? with
  | some (some (.cell k)) => match ce[k]? with
    | some (.lst ds) => f (sl.set i (some (.im (.lst ds)))) (ce.set k .dead)
    | some (.dct ks vs) => f (sl.set i (some (.im (.dct ks vs)))) (ce.set k .dead)
    | _ => .stuck
  | _ => .stuck
section
variable {Z : Zy} {A A' : List Addr} {F F' H : Hp} {ce : List Cell} {sl : Sl} {σ : L2.St} {W : WX} {Q Q' : VK} {D D' : Ends}
theorem PostS.mono {r : Out} (p : A <+: A') (e : Same F F') (h : PostS Z A F W D r) : PostS Z A' F' W D r := by
  cases r with
  | stuck => exact h
  | exc c ds sl ce => exact fun A2 F2 H2 x dx p2 e2 => h A2 F2 H2 x dx (p.trans p2) (e.trans e2)
  | nx sl ce => exact fun A2 F2 H2 x p2 e2 => h A2 F2 H2 x (p.trans p2) (e.trans e2)
  | rt sl ce => exact fun A2 F2 H2 x p2 e2 => h A2 F2 H2 x (p.trans p2) (e.trans e2)
  | bk sl ce => exact fun A2 F2 H2 x p2 e2 => h A2 F2 H2 x (p.trans p2) (e.trans e2)
  | ct sl ce => exact fun A2 F2 H2 x p2 e2 => h A2 F2 H2 x (p.trans p2) (e.trans e2)
theorem PostS.imp {r : Out} (h1 : ∀ σ H, D.nx σ H → D'.nx σ H) (h2 : ∀ x H, D.rt x H → D'.rt x H) (h3 : ∀ σ H, D.bk σ H → D'.bk σ H) (h4 : ∀ σ H, D.ct σ H → D'.ct σ H) (h : PostS Z A F W D r) : PostS Z A F W D' r := by
  cases r with
  | nx sl ce => exact fun A2 F2 H2 x p2 e2 s l => h1 _ _ (h A2 F2 H2 x p2 e2 s l)
  | rt v ce => exact fun A2 F2 H2 x p2 e2 s l => h2 _ _ (h A2 F2 H2 x p2 e2 s l)
  | bk sl ce => exact fun A2 F2 H2 x p2 e2 s l => h3 _ _ (h A2 F2 H2 x p2 e2 s l)
  | ct sl ce => exact fun A2 F2 H2 x p2 e2 s l => h4 _ _ (h A2 F2 H2 x p2 e2 s l)
  | exc c ds sl ce => exact h
  | stuck => exact h
theorem PostS.exp {f : DE} {k : Val → DSt} (so : SO Z.toZx A F ce H) (hs : SL Z A F sl σ) (h : PostS Z A F W D (sExp f k sl ce)) :
    PostE Z A F W σ (fun x H1 => ∃ A1 F1 ce1 v, A <+: A1 ∧ Same F F1 ∧ SO Z.toZx A1 F1 ce1 H1 ∧ VRep Z A1 F1 v x ∧ PostS Z A1 F1 W D (k v sl ce1)) (f sl ce) := by
  unfold sExp at h
  cases e : f sl ce with
  | ok v ce1 =>
    rw [e] at h
    exact fun A1 F1 H1 x p1 e1 s1 r1 => ⟨A1, F1, ce1, v, p1, e1, s1, r1, h.mono p1 e1⟩
  | exc c ds ce1 =>
    rw [e] at h
    exact fun A1 F1 H1 dx p1 e1 s1 x1 => h A1 F1 H1 σ dx p1 e1 s1 (hs.mono p1 e1) x1
  | stuck =>
    rw [e] at h
    exact h.elim
theorem tS1 {f : DE} {k : Val → DSt} (h : tS Z W (sExp f k) D σ H) :
    tE Z W f σ H fun x H1 => ∃ A F sl ce v, SO Z.toZx A F ce H1 ∧ SL Z A F sl σ ∧ VRep Z A F v x ∧ PostS Z A F W D (k v sl ce) := by
  obtain ⟨A, F, sl, ce, so, hs, p⟩ := h
  exact ⟨A, F, sl, ce, so, hs, (PostS.exp so hs p).imp fun x H1 ⟨A1, F1, ce1, v, p1, e1, s1, r1, q1⟩ => ⟨A1, F1, sl, ce1, v, s1, hs.mono p1 e1, r1, q1⟩⟩
theorem nxS (so : SO Z.toZx A F ce H) (hs : SL Z A F sl σ) (p : PostS Z A F W D (.nx sl ce)) : D.nx σ H := p A F H σ (List.prefix_refl _) (Same.refl _) so hs
end
section
variable {X : Cx} {Z : Zy} {W : WX} {st : Stmt} {sts : List Stmt} {f g : DSt} {e : Expr} {fe : DE} {pos : Pos}
theorem ds_nil : PSs X [] (tS Z W sNil) := pss_nil.weak fun D σ H ⟨A, F, sl, ce, so, hs, p⟩ => nxS so hs p
theorem ds_cons (h1 : PS X st (tS Z W f)) (h2 : PSs X sts (tS Z W g)) : PSs X (st :: sts) (tS Z W (sSeq f g)) := (pss_cons h1 h2).weak fun D σ H ⟨A, F, sl, ce, so, hs, p⟩ => by
  refine ⟨A, F, sl, ce, so, hs, ?_⟩
  unfold sSeq at p
  cases e : f sl ce with
  | nx sl1 ce1 =>
    rw [e] at p
    exact fun A1 F1 H1 σ1 p1 e1 s1 l1 => ⟨A1, F1, sl1, ce1, s1, l1, p.mono p1 e1⟩
  | rt v ce => rw [e] at p; exact p
  | bk v ce => rw [e] at p; exact p
  | ct v ce => rw [e] at p; exact p
  | exc c ds sl ce => rw [e] at p; exact p
  | stuck => rw [e] at p; exact p
theorem ds_one (h1 : PS X st (tS Z W f)) : PSs X [st] (tS Z W f) := pss_one h1
theorem ds_set {i : Nat} {x : Str} {pos' : Pos} (hN : X.N.Nodup) (he : PE X e (tE Z W fe)) (hi : X.N[i]? = some x := by rfl) (hx : Loc X.env.scope x := by first | exact Or.inl rfl | exact Or.inr rfl) (hs : swapsWith e (some (.Name x pos')) pos.line X.env = pure false := by rfl)
    (hf : X.fn x = true ∨ X.env.scope.names.lookup x = some .local := by first | exact .inl rfl | exact .inr rfl) : PS X (.Assign [.Name x pos'] e pos) (tS Z W (sSet i fe)) :=
  (ps_set hN hi hx he hs hf).weak fun D σ H h => tE_imp (fun x H1 ⟨A, F, sl, ce, v, so, hs, r, p⟩ => nxS so (hs.set r) p) (tS1 h)
theorem ds_ret (he : PE X e (tE Z W fe)) : PS X (.Return (some e) pos) (tS Z W (sRet fe)) :=
  (ps_ret he).weak fun D σ H h => tE_imp (fun x H1 ⟨A, F, sl, ce, v, so, hs, r, p⟩ => p A F H1 x (List.prefix_refl _) (Same.refl _) so r) (tS1 h)
theorem ds_expr (he : PE X e (tE Z W fe)) (hs : swapsWith e none pos.line X.env = pure false := by rfl) : PS X (.Expr e pos) (tS Z W (sDrop fe)) :=
  (ps_expr he hs).weak fun D σ H h => tE_imp (fun x H1 ⟨A, F, sl, ce, v, so, hs, r, p⟩ => nxS so hs p) (tS1 h)
theorem ds_if {c : Expr} {a b : List Stmt} (hc : PT X c (tT Z W fe)) (ha : PSs X a (tS Z W f)) (hb : PSs X b (tS Z W g)) : PS X (.If c a b pos) (tS Z W (sIf fe f g)) :=
  (ps_if hc ha hb).weak fun D σ H h => tE_imp (fun x H1 ⟨A, F, sl, ce, v, so, hs, r, p⟩ => by
    split at p
    · rename_i b
      refine ⟨b, rep_bl r, ?_⟩
      cases b with
      | true => exact iteT ⟨A, F, sl, ce, so, hs, p⟩
      | false => exact iteF ⟨A, F, sl, ce, so, hs, p⟩
    · exact p.elim) (tS1 h)
end
abbrev GD : Type := D → Sl → Option Sl
def gN (i : Nat) : GD := fun d sl => some (sl.set i (some (.im d)))
def gL : List GD → List D → Sl → Option Sl
  | [], [], sl => some sl
  | g :: gs, d :: ds, sl => (g d sl).bind fun sl' => gL gs ds sl'
  | _, _, _ => none
def gT (gs : List GD) : GD := fun d sl => match d with
  | .tup ds => gL gs ds sl
  | _ => none
/-- the slots but those at ix are as they were -/
def Agree (ix : List Nat) (σ σ' : L2.St) : Prop := σ'.length = σ.length ∧ ∀ j : Nat, j ∉ ix → σ'[j]? = σ[j]?
def tG (Z : Zy) (ix : List Nat) (g : GD) : TG := fun v σ H Q => ∃ A F sl ce d, SO Z.toZx A F ce H ∧ SL Z A F sl σ ∧ Rep Z.toZx F d v ∧ ∃ sl', g d sl = some sl' ∧ ∀ σ', SL Z A F sl' σ' → Agree ix σ σ' → Q σ' H
section
variable {X : Cx} {Z : Zy} {W : WX} {e : Expr} {es : List Expr} {g : GD} {gs : List GD} {ix ix' : List Nat} {pos : Pos}
theorem pg_weak {t t' : TG} (h : PG X e t) (hw : ∀ v σ H Q, t' v σ H Q → t v σ H Q) : PG X e t' := ⟨fun pins s σ H v u Q I r q => h.run pins s σ H v u Q I r (hw _ _ _ _ q)⟩
theorem dg_name {i : Nat} {x : Str} (hN : X.N.Nodup) (hi : X.N[i]? = some x := by rfl) (hx : Loc X.env.scope x := by first | exact Or.inl rfl | exact Or.inr rfl)
    (hf : X.fn x = true ∨ X.env.scope.names.lookup x = some .local := by first | exact .inl rfl | exact .inr rfl) : PG X (.Name x pos) (tG Z [i] (gN i)) :=
  pg_weak (pg_name hN hi hx hf) fun v σ H Q ⟨A, F, sl, ce, d, so, hs, r, sl', e, q⟩ => by
    cases e
    refine q _ (hs.set r) ⟨by simp, fun j hj => ?_⟩
    have : i ≠ j := fun z => hj (by simp [z])
    rw [List.getElem?_set_ne this]
end
inductive IOut where
  | ok (ds : List D) (ce : List Cell) | exc (c : Nat) (ds : List D) (ce : List Cell) | stuck
abbrev DI := Sl → List Cell → IOut
def JOk (Z : Zx) (F : Hp) (J : It) (ds : List D) : Prop := ∀ F1 H i, Same F F1 → Same F1 H → (i = ds.length → J.stop i H) ∧
  ∀ d, ds[i]? = some d → J.go i H ∧ ∀ x H', J.yld i H x H' → (Rep Z F1 d x ∧ H' = H) ∨ ∃ p o, H p = none ∧ H' = upd H p o ∧ Rep Z (upd F1 p o) d x
def tI (Z : Zy) (W : WX) (f : DI) : TI := fun σ H R => ∃ A F sl ce, SO Z.toZx A F ce H ∧ SL Z A F sl σ ∧ match f sl ce with
  | .ok ds ce' => ∀ A' F' H' J, A <+: A' → Same F F' → SO Z.toZx A' F' ce' H' → JOk Z.toZx F' J ds → R J H'
  | .exc c ds ce' => ∀ A' F' H' dx, A <+: A' → Same F F' → SO Z.toZx A' F' ce' H' → ExcOk Z.toZx F' c ds dx → W (.ref (Z.cl c)) dx σ H'
  | .stuck => False
def iExp (f : DE) (k : Val → Option (List D)) : DI := fun sl ce => match f sl ce with
  | .ok v ce' => match k v with
    | some ds => .ok ds ce'
    | none => .stuck
  | .exc c ds ce' => .exc c ds ce'
  | .stuck => .stuck
def itL : Val → Option (List D)
  | .im (.lst ds) => some ds
  | .im (.wl ds) => some ds
  | _ => none
def itT : Val → Option (List D)
  | .im (.tup ds) => some ds
  | _ => none
def signs (z : Str) : List D := z.cps.toList.map fun c => .str ⟨#[c]⟩
def itS : Val → Option (List D)
  | .im (.str z) => some (signs z)
  | _ => none
section
variable {X : Cx} {Z : Zy} {W : WX} {tg e : Expr} {f : DE} {k : Val → Option (List D)} {pos : Pos}
theorem tI1 {σ H R} (h : tI Z W (iExp f k) σ H R) : tE Z W f σ H fun x H1 => ∃ A F ce v ds, SO Z.toZx A F ce H1 ∧ VRep Z A F v x ∧ k v = some ds ∧ ∀ J, JOk Z.toZx F J ds → R J H1 := by
  obtain ⟨A, F, sl, ce, so, hs, p⟩ := h
  refine ⟨A, F, sl, ce, so, hs, ?_⟩
  unfold iExp at p
  cases e : f sl ce with
  | ok v ce1 =>
    simp only [e] at p
    cases e2 : k v with
    | none => simp only [e2] at p
    | some ds =>
      simp only [e2] at p
      exact fun A1 F1 H1 x p1 e1 s1 r1 => ⟨A1, F1, ce1, v, ds, s1, r1, e2, fun J hJ => p A1 F1 H1 J p1 e1 s1 hJ⟩
  | exc c ds ce1 => simp only [e] at p; exact p
  | stuck => simp only [e] at p
theorem _root_.L2.PI.weak {t t' : TI} (h : PI X tg e t) (hw : ∀ σ H R, t' σ H R → t σ H R) : PI X tg e t' := ⟨fun pins s σ H R I q => h.run pins s σ H R I (hw _ _ _ q)⟩
theorem di_list (hK : X.K = Z.K) (he : PE X e (tE Z W f)) : PI X tg e (tI Z W (iExp f itL)) := (pi_list he).weak fun σ H R h => tE_imp (fun x H1 ⟨A, F, ce, v, ds, so, r, e, q⟩ => by
  unfold itL at e
  have key : ∀ a vs, SqL Z.K F a vs → Reps Z.toZx F ds vs → x = .ref a → ∃ a, x = .ref a ∧ (∃ xs, SqL X.K H1 a xs) ∧ R (Itl X.K a) H1 := fun a vs hl rr ex => by
    rw [hK]
    refine ⟨a, ex, ⟨vs, so.sub.seq hl⟩, q _ fun F1 H i e1 e2 => ?_⟩
    have hl' := e2.seq (e1.seq hl)
    refine ⟨fun h => ⟨vs, hl', by rw [h, rr.length]; exact Nat.le_refl _⟩, fun d hd => ?_⟩
    obtain ⟨v, hv, rv⟩ := rr.get' hd
    refine ⟨⟨vs, v, hl', hv⟩, fun x H' ⟨eH, hx⟩ => .inl ⟨?_, eH⟩⟩
    have := hx vs hl'
    rw [hv] at this
    cases this
    exact rv.mono e1
  split at e
  · cases e
    unfold VRep Rep at r
    obtain ⟨a, vs, ex, h1, h2⟩ := r
    exact key a vs (SqL.of h1) h2 ex
  · cases e
    unfold VRep Rep at r
    obtain ⟨a, vs, ex, h1, h2⟩ := r
    exact key a vs h1 h2 ex
  · cases e) (tI1 h)
end
def forD (g : GD) (body : DSt) : List D → DSt
  | [], sl, ce => .nx sl ce
  | d :: ds, sl, ce => match g d sl with
    | none => .stuck
    | some sl1 => match body sl1 ce with
      | .nx sl2 ce2 => forD g body ds sl2 ce2
      | .ct sl2 ce2 => forD g body ds sl2 ce2
      | .bk sl2 ce2 => .nx sl2 ce2
      | o => o
def sFor (fi : DI) (g : GD) (body : DSt) : DSt := fun sl ce => match fi sl ce with
  | .ok ds ce' => forD g body ds sl ce'
  | .exc c ds ce' => .exc c ds sl ce'
  | .stuck => .stuck
section
variable {X : Cx} {Z : Zy} {W : WX} {tg iter : Expr} {fi : DI} {ix : List Nat} {g : GD} {fb : DSt} {body : List Stmt} {pos : Pos}
theorem ds_for (hp : PassesOwn (model X.prog X.w) X.A X.env X.xe) (hi : PI X tg iter (tI Z W fi)) (hg : PG X tg (tG Z ix g)) (hb : PSs X body (tS Z W fb)) (hc : X.calm = true := by rfl)
    (hs : ∀ x, foldedSetIterable iter X.env x = pure x := by intro _; rfl) : PS X (.For tg iter body [] pos) (tS Z W (sFor fi g fb)) := by
  refine (ps_for hp hc hi hg hb hs).weak fun D σ H ⟨A, F, sl, ce, so, hs, p⟩ => ⟨A, F, sl, ce, so, hs, ?_⟩
  unfold sFor at p
  cases e : fi sl ce with
  | stuck => rw [e] at p; exact p.elim
  | exc c ds ce1 =>
    rw [e] at p
    exact fun A1 F1 H1 dx p1 e1 s1 x1 => p A1 F1 H1 σ dx p1 e1 s1 (hs.mono p1 e1) x1
  | ok ds ce1 =>
    rw [e] at p
    intro A1 F1 H1 J p1 e1 so1 hJ
    refine ⟨fun i m σ H => m = ds.length - i ∧ i ≤ ds.length ∧ ∃ A F sl ce, Same F1 F ∧ SO Z.toZx A F ce H ∧ SL Z A F sl σ ∧ PostS Z A F W D (forD g fb (ds.drop i) sl ce),
      ⟨ds.length, rfl, Nat.zero_le _, A1, F1, sl, ce1, Same.refl _, so1, hs.mono p1 e1, p.mono p1 e1⟩, ?_⟩
    rintro i m σ H ⟨rfl, hi, A, F, sl, ce, eF, so, hs, p⟩
    obtain ⟨j1, j2⟩ := hJ F H i eF so.sub
    by_cases hlt : i < ds.length
    · have hd : ds[i]? = some ds[i] := List.getElem?_eq_getElem hlt
      obtain ⟨go, yl⟩ := j2 _ hd
      refine .inr ⟨go, fun σ H => i + 1 ≤ ds.length ∧ ∃ A F sl ce, Same F1 F ∧ SO Z.toZx A F ce H ∧ SL Z A F sl σ ∧ PostS Z A F W D (forD g fb (ds.drop (i + 1)) sl ce), fun σ' H' q => ⟨ds.length - (i + 1), by omega, rfl, q⟩, fun x H' hy => ?_⟩
      rw [List.drop_eq_getElem_cons hlt] at p
      have fin : ∀ F2 H2, Same F F2 → SO Z.toZx A F2 ce H2 → Rep Z.toZx F2 ds[i] x → tG Z ix g x σ H2 fun σ2 H3 => tS Z W fb { D with nx := fun σ H => i + 1 ≤ ds.length ∧ ∃ A F sl ce, Same F1 F ∧ SO Z.toZx A F ce H ∧ SL Z A F sl σ ∧ PostS Z A F W D (forD g fb (ds.drop (i + 1)) sl ce), ct := fun σ H => i + 1 ≤ ds.length ∧ ∃ A F sl ce, Same F1 F ∧ SO Z.toZx A F ce H ∧ SL Z A F sl σ ∧ PostS Z A F W D (forD g fb (ds.drop (i + 1)) sl ce), bk := D.nx } σ2 H3 := by
        intro F2 H2 e2 so2 r2
        refine ⟨A, F2, sl, ce, ds[i], so2, hs.mono (List.prefix_refl _) e2, r2, ?_⟩
        unfold forD at p
        cases eg : g ds[i] sl with
        | none => rw [eg] at p; exact p.elim
        | some sl1 =>
          rw [eg] at p
          refine ⟨sl1, rfl, fun σ' hs' _ => ⟨A, F2, sl1, ce, so2, hs', ?_⟩⟩
          simp only at p
          cases eb : fb sl1 ce with
          | nx sl2 ce2 => rw [eb] at p; exact fun A3 F3 H3 σ3 p3 e3 so3 hs3 => ⟨hlt, A3, F3, sl2, ce2, (eF.trans e2).trans e3, so3, hs3, p.mono p3 (e2.trans e3)⟩
          | ct sl2 ce2 => rw [eb] at p; exact fun A3 F3 H3 σ3 p3 e3 so3 hs3 => ⟨hlt, A3, F3, sl2, ce2, (eF.trans e2).trans e3, so3, hs3, p.mono p3 (e2.trans e3)⟩
          | bk sl2 ce2 => rw [eb] at p; exact fun A3 F3 H3 σ3 p3 e3 so3 hs3 => p A3 F3 H3 σ3 p3 (e2.trans e3) so3 hs3
          | rt v ce2 => rw [eb] at p; exact fun A3 F3 H3 x3 p3 e3 so3 hs3 => p A3 F3 H3 x3 p3 (e2.trans e3) so3 hs3
          | exc c es sl2 ce2 => rw [eb] at p; exact fun A3 F3 H3 σ3 dx p3 e3 so3 hs3 => p A3 F3 H3 σ3 dx p3 (e2.trans e3) so3 hs3
          | stuck => rw [eb] at p; exact p.elim
      rcases yl x H' hy with ⟨rx, rfl⟩ | ⟨q, o, hq, rfl, rx⟩
      · exact fin F _ (Same.refl _) so rx
      · exact fin _ _ (same_up (so.fnone hq)) (so.new hq) rx
    · have ei : i = ds.length := by omega
      refine .inl ⟨j1 ei, ?_⟩
      rw [ei, List.drop_length] at p
      exact nxS so hs p
end
end ZZ
set_option Elab.async false
set_option linter.all false
set_option maxRecDepth 100000
namespace L2
open PySem PySem.Spec PyProof.Rows
end L2
namespace ZZ
open PySem PySem.Spec L2
def rangeD (lo c : Int) (n : Nat) : List D := (List.range n).map fun (i : Nat) => D.int (lo + (i : Int) * c)
/-- the walk of a call with arguments -/
def iArgs (fs : List DE) (k : List Val → Option (List D)) : DI := iExp (eArgs fs fun vs _ ce => match k vs with
  | some ds => .ok (.im (.lst ds)) ce
  | none => .stuck) itL
def isz (i : Int) : Bool := Nat.ble i.natAbs 4611686018427387903
theorem isz_of {i : Int} (h : -(2 ^ 62) < i ∧ i < 2 ^ 62) : isz i = true := by
  unfold isz
  rw [Nat.ble_eq]
  omega
def kRng1 : List Val → Option (List D)
  | [.im (.int j)] => if isz j then some (rangeD 0 1 j.toNat) else none
  | _ => none
section
variable {X : Cx} {Z : Zy} {W : WX} {tg e : Expr} {fs : List DE} {k : List Val → Option (List D)} {pos : Pos}
/-- the arguments' end, without an object of its own -/
theorem tIN {σ H R} (h : tI Z W (iArgs fs k) σ H R) : tArgs Z W fs σ H fun xs H1 => ∃ A F ce vs ds, SO Z.toZx A F ce H1 ∧ VReps Z A F vs xs ∧ k vs = some ds ∧ ∀ J, JOk Z.toZx F J ds → R J H1 := by
  obtain ⟨A, F, sl, ce, so, hs, p⟩ := h
  unfold iArgs iExp at p
  have key : PostE Z A F W σ (fun _ _ => True) (eArgs fs (fun vs _ ce => match k vs with
      | some ds => .ok (.im (.lst ds)) ce
      | none => .stuck) sl ce) → True := fun _ => trivial
  -- the walk's wish as a wish on the arguments
  let kk : List Val → DE := fun vs _ ce => match k vs with
    | some ds => .ok (.im (.lst ds)) ce
    | none => .stuck
  have go : ∀ (fs : List DE) (kv : List Val → DE) (A : List Addr) (F H : Hp) (ce : List Cell) (pre : List Val), SO Z.toZx A F ce H → SL Z A F sl σ → (∀ vs, kv vs = kk (pre ++ vs)) →
      (match (match eArgs fs kv sl ce with
        | .ok v ce' => (match itL v with
          | some ds => IOut.ok ds ce'
          | none => IOut.stuck)
        | .exc c ds ce' => IOut.exc c ds ce'
        | .stuck => IOut.stuck) with
      | .ok ds ce' => ∀ A' F' H' J, A <+: A' → Same F F' → SO Z.toZx A' F' ce' H' → JOk Z.toZx F' J ds → R J H'
      | .exc c ds ce' => ∀ A' F' H' dx, A <+: A' → Same F F' → SO Z.toZx A' F' ce' H' → ExcOk Z.toZx F' c ds dx → W (.ref (Z.cl c)) dx σ H'
      | .stuck => False) →
      tArgs Z W fs σ H fun xs H1 => ∃ A1 F1 ce1 vs ds, A <+: A1 ∧ Same F F1 ∧ SO Z.toZx A1 F1 ce1 H1 ∧ VReps Z A1 F1 vs xs ∧ k (pre ++ vs) = some ds ∧ ∀ J, JOk Z.toZx F1 J ds → R J H1 := by
    intro fs
    induction fs with
    | nil =>
      intro kv A F H ce pre so hs hkv p
      unfold eArgs at p
      rw [hkv] at p
      simp only [kk] at p
      cases e : k (pre ++ []) with
      | none => simp only [e] at p
      | some ds =>
        simp only [e, itL] at p
        exact ⟨A, F, ce, [], ds, List.prefix_refl _, Same.refl _, so, rfl, e, fun J hJ => p A F H J (List.prefix_refl _) (Same.refl _) so hJ⟩
    | cons f fs ih =>
      intro kv A F H ce pre so hs hkv p
      unfold eArgs eBind at p
      refine ⟨A, F, sl, ce, so, hs, ?_⟩
      cases e : f sl ce with
      | stuck => simp only [e] at p
      | exc c ds ce1 => simp only [e] at p; exact p
      | ok v ce1 =>
        simp only [e] at p
        intro A1 F1 H1 x p1 e1 so1 r1
        refine tArgs_imp (fun xs H2 ⟨A2, F2, ce2, vs, ds, p2, e2, so2, r2, hk, q⟩ => ⟨A2, F2, ce2, v :: vs, ds, p1.trans p2, e1.trans e2, so2, ⟨x, xs, rfl, r1.mono p2 e2, r2⟩, by simpa using hk, q⟩)
          (ih (fun vs => kv (v :: vs)) A1 F1 H1 ce1 (pre ++ [v]) so1 (hs.mono p1 e1) (fun vs => by simp [hkv]) ?_)
        revert p
        cases eArgs fs (fun vs => kv (v :: vs)) sl ce1 with
        | stuck => exact id
        | exc c ds ce2 => exact fun p A' F' H' dx pp ee => p A' F' H' dx (p1.trans pp) (e1.trans ee)
        | ok u ce2 =>
          dsimp only
          cases itL u with
          | none => exact id
          | some ds => exact fun p A' F' H' J pp ee => p A' F' H' J (p1.trans pp) (e1.trans ee)
  exact tArgs_imp (fun xs H2 ⟨A2, F2, ce2, vs, ds, p2, e2, so2, r2, hk, q⟩ => ⟨A2, F2, ce2, vs, ds, so2, r2, by simpa using hk, q⟩) (go fs kk A F H ce [] so hs (fun vs => rfl) p)
theorem repIx {Z : Zx} {F : Hp} {i : Int} : Rep Z F (.int i) (.int i) := by unfold Rep; rfl
theorem isz_ok {i : Int} (h : isz i = true) : -(2 ^ 62) ≤ i ∧ i < 2 ^ 62 := by
  unfold isz at h
  rw [Nat.ble_eq] at h
  omega
theorem jok_r {Z : Zx} {F : Hp} (lo : Int) (n : Nat) : JOk Z F (Itr lo n) (rangeD lo 1 n) := by
  intro F1 H i e1 e2
  refine ⟨fun h => by show n ≤ i; rw [h]; simp [rangeD], fun d hd => ?_⟩
  have hi : i < n := by
    have := (List.getElem?_eq_some_iff.mp hd).1
    simpa [rangeD] using this
  refine ⟨hi, fun x H' ⟨eH, ex⟩ => .inl ⟨?_, eH⟩⟩
  have : d = .int (lo + (i : Int) * 1) := by
    unfold rangeD at hd
    rw [List.getElem?_map, List.getElem?_range hi] at hd
    cases hd
    rfl
  rw [this, ex, Int.mul_one]
  exact repIx
theorem di_range1 {a : Expr} {p : Pos} {f : DE} (hm : X.mg "range" = none) (ha : PA X [a] (tArgs Z W [f])) (hg : Gl X "range" := by rfl) (hs : starEach [a] X.env = [(false, eval a X.env)] := by rfl) : PI X tg (.Call (.Name "range" p) [a] [] pos) (tI Z W (iArgs [f] kRng1)) :=
  (pi_range1 hg hm ha hs).weak fun σ H R h => tArgs_imp (fun xs H1 ⟨A, F, ce, vs, ds, so, r, hk, q⟩ => by
    unfold kRng1 at hk
    split at hk
    · split at hk
      · rename_i j hj
        cases hk
        replace r := vreps1 r
        obtain ⟨x, rfl, r⟩ := r
        rw [rep_int r]
        exact ⟨j, rfl, (isz_ok hj).1, (isz_ok hj).2, q _ (jok_r 0 _)⟩
      · cases hk
    · cases hk) (tIN h)
end
end ZZ
set_option Elab.async false
set_option linter.all false
set_option maxRecDepth 100000
namespace ZZ
open PySem PySem.Spec L2
def wipeD (sl : Sl) : List Nat → Sl
  | [] => sl
  | v :: vs => (wipeD sl vs).set v none
def lcD (own : List Nat) (g : GD) (t f : DE) (n : Nat) : List D → Sl → List Cell → EOut
  | [], sl, ce => .ok (.cell n) ce
  | d :: ds, sl, ce => match g d (wipeD sl own) with
    | none => .stuck
    | some sl1 => match t sl1 ce with
      | .ok (.im (.bl b)) ce1 => if b then (match f sl1 ce1 with
        | .ok (.im y) ce2 => match ce2[n]? with
          | some (.lst acc) => if acc.length < LINE then lcD own g t f n ds sl (ce2.set n (.lst (acc ++ [y]))) else .stuck
          | _ => .stuck
        | _ => .stuck) else lcD own g t f n ds sl ce1
      | _ => .stuck
/-- a comprehension's list, as an own list -/
def eLcC (own : List Nat) (fi : DI) (g : GD) (t f : DE) : DE := fun sl ce => match fi sl ce with
  | .ok ds ce' => lcD own g t f ce'.length ds sl (ce' ++ [.lst []])
  | .exc c ds ce' => .exc c ds ce'
  | .stuck => .stuck
/-- an own list that an expression gives, settled -/
def eSettle (f : DE) : DE := fun sl ce => match f sl ce with
  | .ok (.cell n) ce2 => match ce2[n]? with
    | some (.lst ds) => .ok (.im (.lst ds)) ((ce2.set n .dead).take ce.length)
    | some (.dct ks vs) => .ok (.im (.dct ks vs)) ((ce2.set n .dead).take ce.length)
    | _ => .stuck
  | r => r
section
variable {Z : Zy} {A A' : List Addr} {F F' H : Hp} {ce : List Cell} {sl : Sl} {σ : L2.St} {W : WX} {Q Q' : VK}
theorem PtrL.cut {A : List Addr} {n k : Nat} (hk : k < n) : ∀ {ks : List Nat} {bs : List Addr}, PtrL A k ks bs → PtrL (A.take n) k ks bs
  | [], bs, h => h
  | j :: js, bs, ⟨b, t, e, h1, h2, h3⟩ => ⟨b, t, e, h1, by rw [List.getElem?_take_of_lt (by omega)]; exact h2, PtrL.cut hk h3⟩
theorem CellOk.cut {Z : Zx} {a : Addr} {c : Cell} {k n : Nat} (nd : A.Nodup) (hk : A[k]? = some a) (hn : k < n) (h : CellOk Z A F H a c) : CellOk Z (A.take n) F H a c := by
  cases c with
  | dead => exact h
  | lst ds => exact h
  | ins c ds => exact h
  | dct ks vs => exact h
  | ptr ks =>
    obtain ⟨h0, k0, bs, h1, h2, h3⟩ := h
    have e : k0 = k := (List.getElem?_inj (List.getElem?_eq_some_iff.mp h1).1 nd).mp (h1.trans hk.symm)
    subst e
    exact ⟨h0, k0, bs, by rw [List.getElem?_take_of_lt hn]; exact h1, h2, h3.cut hn⟩
theorem SO.take (n : Nat) (so : SO Z.toZx A F ce H) : SO Z.toZx (A.take n) F (ce.take n) H := by
  refine ⟨so.sub, by simp [so.len], ?_, fun k a c h1 h2 => ?_⟩
  · exact List.Nodup.sublist (List.take_sublist _ _) so.nd
  · have hk : k < n := by
      have := (List.getElem?_eq_some_iff.mp h1).1
      simp at this
      omega
    rw [List.getElem?_take_of_lt hk] at h1 h2
    exact (so.ok k a c h1 h2).cut so.nd h1 hk
theorem SL.wipe (hs : SL Z A F sl σ) : ∀ vs : List Nat, SL Z A F (wipeD sl vs) (L2.wipe σ vs)
  | [] => hs
  | v :: vs => (SL.wipe hs vs).gone
theorem wipe_get (σ : L2.St) : ∀ (vs : List Nat) (j : Nat), (L2.wipe σ vs)[j]? = if j ∈ vs then (if j < σ.length then some none else none) else σ[j]?
  | [], j => by simp [L2.wipe]
  | v :: vs, j => by
    unfold L2.wipe
    by_cases hj : v = j
    · subst hj
      by_cases hl : v < σ.length
      · rw [List.getElem?_set_self (by rw [wipe_length]; exact hl)]
        simp [hl]
      · rw [List.getElem?_eq_none (by rw [List.length_set, wipe_length]; omega)]
        simp [hl]
    · rw [List.getElem?_set_ne hj, wipe_get σ vs j]
      have : (j ∈ v :: vs) ↔ j ∈ vs := by
        simp only [List.mem_cons]
        exact ⟨fun h => h.resolve_left fun e => hj e.symm, .inr⟩
      simp only [this]
theorem wipe_agree {ix vs : List Nat} {σ2 : L2.St} (h : Agree ix (L2.wipe σ vs) σ2) (hi : ∀ i ∈ ix, i ∈ vs) : L2.wipe σ2 vs = L2.wipe σ vs := by
  refine List.ext_getElem? fun j => ?_
  have hl : σ2.length = σ.length := by rw [h.1, wipe_length]
  rw [wipe_get, wipe_get, hl]
  by_cases hj : j ∈ vs
  · simp [hj]
  · simp only [hj, if_false]
    have := h.2 j fun z => hj (hi j z)
    rw [this, wipe_get]
    simp [hj]
end
section
variable {X : Cx} {Z : Zy} {elt tg iter : Expr} {ifs : List Expr} {scope : Scope} {own : List (Str × Nat)} {ix : List Nat} {fi : DI} {g : GD} {t f : DE} {pos : Pos} {W : WX}
theorem dts_nil : PTs X [] (tT Z W (eC (.bl true))) := ⟨fun pins s σ H Q I h => pts_nil.run pins s σ H Q I (by
  obtain ⟨A, F, sl, ce, so, hs, p⟩ := h
  obtain ⟨b, e, q⟩ := fin_flat so p repB
  cases e
  exact q)⟩
theorem dts_one {c : Expr} (h : PT X c (tT Z W f)) : PTs X [c] (tT Z W f) := pts_one h
/-- the reading of a comprehension: a wish on the cell's end -/
theorem lc_read {σ : L2.St} {H : Hp} {Q : VK} {A F sl ce} (hix : ∀ i ∈ ix, i ∈ own.map (·.2)) (so : SO Z.toZx A F ce H) (hs : SL Z A F sl σ)
    (p : match fi sl ce with
      | .ok ds ce' => PostE Z A F W σ Q (lcD (own.map (·.2)) g t f ce'.length ds sl (ce' ++ [.lst []]))
      | .exc c ds ce' => PostE Z A F W σ Q (.exc c ds ce')
      | .stuck => False) : tLc (tI Z W fi) (tG Z ix g) (tT Z WF t) (tE Z WF f) (own.map (·.2)) σ H Q := by
  refine ⟨A, F, sl, ce, so, hs, ?_⟩
  cases e : fi sl ce with
  | stuck => rw [e] at p; exact p.elim
  | exc c ds ce1 => rw [e] at p; exact p
  | ok ds ce1 =>
    rw [e] at p
    intro A1 F1 H1 J p1 e1 so1 hJ D hD
    have hn : A1.length = ce1.length := so1.len
    have so2 : SO Z.toZx (A1 ++ [D]) F1 (ce1 ++ [.lst []]) (upd H1 D (.lst [])) := so1.newCell hD ⟨so1.fnone hD, [], upd_same, reps_nil⟩
    refine ⟨fun i m H => m = ds.length - i ∧ i ≤ ds.length ∧ ∃ A2 F2 ce2, A1 ++ [D] <+: A2 ∧ Same F1 F2 ∧ SO Z.toZx A2 F2 ce2 H ∧ PostE Z A2 F2 W σ Q (lcD (own.map (·.2)) g t f ce1.length (ds.drop i) sl ce2),
      ⟨ds.length, rfl, Nat.zero_le _, A1 ++ [D], F1, _, List.prefix_refl _, Same.refl _, so2, p.mono (p1.trans (List.prefix_append _ _)) e1⟩, ?_⟩
    rintro i m H ⟨rfl, hi, A2, F2, ce2, pA, eF, so, q⟩
    have hA2 : A2[ce1.length]? = some D := by
      refine pre_get pA ?_
      rw [← hn]
      simp
    obtain ⟨j1, j2⟩ := hJ F2 H i eF so.sub
    by_cases hlt : i < ds.length
    · have hd : ds[i]? = some ds[i] := List.getElem?_eq_getElem hlt
      obtain ⟨go, yl⟩ := j2 _ hd
      refine .inr ⟨go, fun H => i + 1 ≤ ds.length ∧ ∃ A2 F2 ce2, A1 ++ [D] <+: A2 ∧ Same F1 F2 ∧ SO Z.toZx A2 F2 ce2 H ∧ PostE Z A2 F2 W σ Q (lcD (own.map (·.2)) g t f ce1.length (ds.drop (i + 1)) sl ce2), fun H' q => ⟨ds.length - (i + 1), by omega, rfl, q⟩, fun x H' hy => ?_⟩
      rw [List.drop_eq_getElem_cons hlt] at q
      have hsW := (hs.mono (p1.trans ((List.prefix_append _ _).trans pA)) (e1.trans eF)).wipe (own.map (·.2))
      have fin : ∀ F3 H3, Same F2 F3 → SO Z.toZx A2 F3 ce2 H3 → Rep Z.toZx F3 ds[i] x → tG Z ix g x (L2.wipe σ (own.map (·.2))) H3 fun σ2 H2 => L2.wipe σ2 (own.map (·.2)) = L2.wipe σ (own.map (·.2)) ∧ tT Z WF t σ2 H2 fun b H3 =>
          if b = true then tE Z WF f σ2 H3 fun y H4 => ∃ acc, H4 D = some (.lst acc) ∧ acc.length < sizeLine ∧ (fun H => i + 1 ≤ ds.length ∧ ∃ A2 F2 ce2, A1 ++ [D] <+: A2 ∧ Same F1 F2 ∧ SO Z.toZx A2 F2 ce2 H ∧ PostE Z A2 F2 W σ Q (lcD (own.map (·.2)) g t f ce1.length (ds.drop (i + 1)) sl ce2)) (upd H4 D (.lst (acc ++ [y])))
          else (fun H => i + 1 ≤ ds.length ∧ ∃ A2 F2 ce2, A1 ++ [D] <+: A2 ∧ Same F1 F2 ∧ SO Z.toZx A2 F2 ce2 H ∧ PostE Z A2 F2 W σ Q (lcD (own.map (·.2)) g t f ce1.length (ds.drop (i + 1)) sl ce2)) H3 := by
        intro F3 H3 e3 so3 r3
        refine ⟨A2, F3, wipeD sl (own.map (·.2)), ce2, ds[i], so3, hsW.mono (List.prefix_refl _) e3, r3, ?_⟩
        unfold lcD at q
        cases eg : g ds[i] (wipeD sl (own.map (·.2))) with
        | none => rw [eg] at q; exact q.elim
        | some sl1 =>
          simp only [eg] at q
          refine ⟨sl1, rfl, fun σ2 hs2 ag => ⟨wipe_agree ag hix, A2, F3, sl1, ce2, so3, hs2, ?_⟩⟩
          cases et : t sl1 ce2 with
          | stuck => rw [et] at q; exact q.elim
          | exc c ds ce3 => rw [et] at q; exact q.elim
          | ok vt ce3 =>
            rw [et] at q
            intro A4 F4 H4 xb p4 e4 so4 rb
            cases vt with
            | cell n => exact q.elim
            | exn c ds => exact q.elim
            | im d => cases d with
              | bl b =>
                refine ⟨b, rep_bl rb, ?_⟩
                cases b with
                | false =>
                  refine iteF ⟨hlt, A4, F4, ce3, pA.trans p4, (eF.trans e3).trans e4, so4, ?_⟩
                  exact PostE.mono p4 (e3.trans e4) (by simpa using q)
                | true =>
                  simp only [if_true] at q
                  refine iteT ⟨A4, F4, sl1, ce3, so4, hs2.mono p4 e4, ?_⟩
                  cases ef : f sl1 ce3 with
                  | stuck => rw [ef] at q; exact q.elim
                  | exc c ds ce5 => rw [ef] at q; exact q.elim
                  | ok vy ce5 =>
                    rw [ef] at q
                    intro A5 F5 H5 xy p5 e5 so5 ry
                    cases vy with
                    | cell n => exact q.elim
                    | exn c ds => exact q.elim
                    | im y =>
                      dsimp only at q
                      split at q
                      · rename_i acc hacc
                        split at q
                        · rename_i hline
                          have hA5 : A5[ce1.length]? = some D := pre_get p5 (pre_get p4 hA2)
                          obtain ⟨hF5, vs, hH5, r5⟩ := so5.ok _ _ _ hA5 hacc
                          refine ⟨vs, hH5, by rw [sizeLine_eq, ← r5.length]; exact hline, hlt, A5, F5, _, (pA.trans p4).trans p5, ((eF.trans e3).trans e4).trans e5, so5.write (c := .lst (acc ++ [y])) hA5 hF5 ⟨hF5, _, upd_same, r5.append (reps_cons ry reps_nil)⟩, ?_⟩
                          exact PostE.mono (p4.trans p5) ((e3.trans e4).trans e5) q
                        · exact q.elim
                      · exact q.elim
              | _ => exact q.elim
      rcases yl x H' hy with ⟨rx, rfl⟩ | ⟨q', o, hq', rfl, rx⟩
      · exact fin F2 _ (Same.refl _) so rx
      · exact fin _ _ (same_up (so.fnone hq')) (so.new hq') rx
    · have ei : i = ds.length := by omega
      refine .inl ⟨j1 ei, ?_⟩
      rw [ei, List.drop_length] at q
      exact q A2 F2 H (.ref D) (List.prefix_refl _) (Same.refl _) so ⟨D, hA2, rfl⟩
theorem lc_of (hix : ∀ i ∈ ix, i ∈ own.map (·.2)) {σ : L2.St} {H : Hp} {Q : VK} (h : tE Z W (eLcC (own.map (·.2)) fi g t f) σ H Q) : tLc (tI Z W fi) (tG Z ix g) (tT Z WF t) (tE Z WF f) (own.map (·.2)) σ H Q := by
  obtain ⟨A, F, sl, ce, so, hs', p⟩ := h
  refine lc_read hix so hs' ?_
  unfold eLcC at p
  cases e : fi sl ce with
  | stuck => rw [e] at p; exact p
  | exc c ds ce1 => rw [e] at p; exact p
  | ok ds ce1 => rw [e] at p; exact p
theorem de_lcC (hc : X.calm = true) (hN : X.N.Nodup) (ok : BlkOk X.N X.env.scope scope own) (hix : ∀ i ∈ ix, i ∈ own.map (·.2)) (hi : PI X tg iter (tI Z W fi))
    (hg : ∀ (s : Shared) (H : Hp) (C : Addr) (cl : List (Str × Addr)) (fp : List Addr), PG (X.blk s H scope (compEnvC scope cl C X.env) fp) tg (tG Z ix g)) (ht : ∀ (s : Shared) (H : Hp) (C : Addr) (cl : List (Str × Addr)) (fp : List Addr), PTs (X.blk s H scope (compEnvC scope cl C X.env) fp) ifs (tT Z WF t))
    (he : ∀ (s : Shared) (H : Hp) (C : Addr) (cl : List (Str × Addr)) (fp : List Addr), PE (X.blk s H scope (compEnvC scope cl C X.env) fp) elt (tE Z WF f)) (hs : ∀ x, foldedSetIterable iter X.env x = pure x := by intro _; rfl) :
    PE X (.ListComp elt [⟨tg, iter, ifs, 0⟩] scope pos) (tE Z W (eLcC (own.map (·.2)) fi g t f)) :=
  (pe_lc hc hN hi ok hg ht he hs).weak fun σ H Q h => lc_of hix h
theorem tE_settle {f : DE} {σ : L2.St} {H : Hp} {Q : VK} (h : tE Z W (eSettle f) σ H Q) : tE Z W f σ H Q := by
  obtain ⟨A, F, sl, ce, so, hs, p⟩ := h
  refine ⟨A, F, sl, ce, so, hs, ?_⟩
  unfold eSettle at p
  cases e : f sl ce with
  | stuck => rw [e] at p; exact p
  | exc c ds ce1 => rw [e] at p; exact p
  | ok v ce2 =>
    rw [e] at p
    cases v with
    | im d => exact p
    | exn c ds => exact p
    | cell n =>
      intro A' F' H' x pA eF so2 rx
      obtain ⟨a, ha, rfl⟩ := rx
      dsimp only at p
      split at p
      · rename_i acc hacc
        obtain ⟨hF, vs, hH, rr⟩ := so2.ok _ _ _ ha hacc
        have up := same_up (o := .lst vs) hF
        refine p (A'.take ce.length) (upd F' a (.lst vs)) H' (.ref a) ?_ (eF.trans up) ((so2.freeze ha hF hH).take _) ?_
        · obtain ⟨t, rfl⟩ := pA
          rw [← so.len, List.take_left]
          exact List.prefix_refl _
        · unfold VRep Rep
          exact ⟨a, vs, rfl, upd_same, rr.mono up⟩
      · rename_i ks vs hacc
        obtain ⟨hF, o, kvs, vvs, hH, sh, r1, r2⟩ := so2.ok _ _ _ ha hacc
        have up := same_up (o := o) hF
        refine p (A'.take ce.length) (upd F' a o) H' (.ref a) ?_ (eF.trans up) ((so2.freeze ha hF hH).take _) ?_
        · obtain ⟨t, rfl⟩ := pA
          rw [← so.len, List.take_left]
          exact List.prefix_refl _
        · unfold VRep Rep
          exact ⟨a, o, kvs, vvs, rfl, upd_same, sh, r1.mono up, r2.mono up⟩
      · exact p.elim
theorem de_settle {e : Expr} {f : DE} (h : PE X e (tE Z W f)) : PE X e (tE Z W (eSettle f)) := h.weak fun σ H Q q => tE_settle q
theorem ds_setLc {i : Nat} {y : Str} {py spos : Pos} (hc : X.calm = true) (hN : X.N.Nodup) (ok : BlkOk X.N X.env.scope scope own) (hix : ∀ i ∈ ix, i ∈ own.map (·.2)) (hi : PI X tg iter (tI Z W fi))
    (hg : ∀ (s : Shared) (H : Hp) (C : Addr) (cl : List (Str × Addr)) (fp : List Addr), PG (X.blk s H scope (compEnvC scope cl C X.env) fp) tg (tG Z ix g)) (ht : ∀ (s : Shared) (H : Hp) (C : Addr) (cl : List (Str × Addr)) (fp : List Addr), PTs (X.blk s H scope (compEnvC scope cl C X.env) fp) ifs (tT Z WF t))
    (he : ∀ (s : Shared) (H : Hp) (C : Addr) (cl : List (Str × Addr)) (fp : List Addr), PE (X.blk s H scope (compEnvC scope cl C X.env) fp) elt (tE Z WF f)) (hy : X.N[i]? = some y := by rfl) (hyl : X.env.scope.names.lookup y = some .local := by rfl)
    (hsw : swapsWith (.ListComp elt [⟨tg, iter, ifs, 0⟩] scope pos) (some (.Name y py)) spos.line X.env = pure true := by exact sw_true rfl rfl rfl (by decide +kernel)) (hs : ∀ x, foldedSetIterable iter X.env x = pure x := by intro _; rfl) :
    PS X (.Assign [.Name y py] (.ListComp elt [⟨tg, iter, ifs, 0⟩] scope pos) spos) (tS Z W (sSet i (eLcC (own.map (·.2)) fi g t f))) :=
  (ps_setLc hc hN hy hyl hsw hi ok hg ht he hs).weak fun D σ H h => lc_of hix (tE_imp (fun x H1 ⟨A, F, sl, ce, v, so, hs, r, p⟩ => nxS so (hs.set r) p) (tS1 h))
end
end ZZ
set_option Elab.async false
set_option linter.all false
set_option maxRecDepth 100000
namespace L2
open PySem PySem.Spec
section
variable {X : Cx} {CX : CXT} {k : Nat} {f C : Addr} {fd : FuncData} {ps : List Str} {sp : Sp} {dvs : List V} {ds : List Value} {E : L2.St → XK} {x m : Str} {p pos apos : Pos} {e o : Expr} {es : List Expr} {ta : TE} {t : TA}
theorem pe_callZS0 (F : FnOk X.prog X.w X.K X.mg X.base CX k f fd ps sp) (hr : Room k X.A) (hg : Gl X x) (hm : X.mg x = some (.ref f)) (hk : PySem.W.keepIn X.K (.ref f) = true) (hb : Binds X.K fd ps ds) (hd : Vals dvs ds) (hx : ∀ σ, PassesAt CX X σ (E σ))
    (hdb : (x == ("__debug__" : Str)) = false := by decide) : PE X (.Call (.Name x p) [] [] pos) (fun σ H Q => sp dvs H Q (E σ)) := by
  refine ⟨fun pins s σ H Q I h => ?_⟩
  refine wpAny_Call_Name_kw (ld_glob I hg hm ?_ hdb)
  exact PySem.W.callWith_K0 I.kIn hk (run_fnSD (us := []) (vs := []) F hr hb hd (hx σ) I .nil h)
end
end L2
namespace ZZ
open PySem PySem.Spec L2
abbrev Zx.z (Z : Zx) : Zy := ⟨Z, none⟩
abbrev DF : Type := List Val → List Cell → EOut
/-- a def's promise: it computes fh -/
def spD (Z : Zx) (fh : DF) (n : Nat) : Sp := fun vs H Q E => ∃ A F ce ds, SO Z A F ce H ∧ VReps Z.z A F ds vs ∧ ds.length = n ∧ PostE Z.z A F (fun c d _ H => E c d H) [] Q (fh ds ce)
/-- a def's value: its body run, the store cut -/
def finD (n : Nat) (v : Val) (ce : List Cell) : EOut := match v with
  | .im d => .ok (.im d) (ce.take n)
  | .cell k => if k < n then .ok (.cell k) (ce.take n) else (match ce[k]? with
    | some (.ptr _) => .stuck
    | some c => .ok (.cell n) (ce.take n ++ [c])
    | none => .stuck)
  | .exn _ _ => .stuck
def mkD (nsl : Nat) (body : DSt) : DF := fun ds ce => match body (ds.map some ++ List.replicate (nsl - ds.length) none) ce with
  | .nx _ ce' => finD ce.length (.im .non) ce'
  | .rt v ce' => finD ce.length v ce'
  | .exc c es _ ce' => .exc c es (ce'.take ce.length)
  | _ => .stuck
section
variable {Z : Zx} {A A' : List Addr} {F F' H : Hp} {ce : List Cell} {sl : Sl} {σ : L2.St} {W : WX} {Q Q' : VK}
theorem SO.cut {n : Nat} (so : SO Z A' F ce H) (p : A <+: A') (hn : A.length = n) : SO Z A F (ce.take n) H := by
  have := SO.take (Z := Z.z) n so
  obtain ⟨t, rfl⟩ := p
  rw [← hn, List.take_left] at this
  rw [← hn]
  exact this
theorem vrep_z {Y : Zy} (hy : Y.toZx = Z) {v : Val} {x : V} (h1 : VRep Z.z A F v x) : VRep Y A F v x := by
  subst hy
  cases v with
  | im d => exact h1
  | cell k => exact h1
  | exn c ds => exact h1.elim (fun ⟨_, a, dx, h, _⟩ => by cases h) .inr
/-- values that a callee may take -/
def plainV : Val → Bool
  | .exn c _ => decide (1000 ≤ c)
  | _ => true
theorem VReps.nohd {Y : Zy} : ∀ {vs : List Val} {xs : List V}, vs.all plainV = true → VReps Y A F vs xs → VReps (Zx.z Y.toZx) A F vs xs
  | [], _, _, h => h
  | v :: vs, _, hp, ⟨x, r, e, h1, h2⟩ => by
    simp only [List.all_cons, Bool.and_eq_true] at hp
    refine ⟨x, r, e, ?_, VReps.nohd hp.2 h2⟩
    cases v with
    | im d => exact h1
    | cell k => exact h1
    | exn c ds => exact h1.elim (fun h => absurd (of_decide_eq_true hp.1) (by omega)) .inr
theorem vreps_start {N : List Str} {ds : List Val} {vs : List V} (h : VReps Z.z A F ds vs) : SL Z.z A F (ds.map some ++ List.replicate (N.length - ds.length) none) (L2.start N vs) := by
  have hl := h.length
  unfold L2.start
  rw [hl]
  refine ⟨by simp [hl], ?_⟩
  have key : ∀ {ds : List Val} {vs : List V} (m : Nat), VReps Z.z A F ds vs → ∀ (i : Nat) (v : Val), (ds.map some ++ List.replicate m none)[i]? = some (some v) → ∃ x, (vs.map some ++ List.replicate m none)[i]? = some (some x) ∧ VRep Z.z A F v x := by
    intro ds
    induction ds with
    | nil =>
      intro vs m h i v e
      unfold VReps at h
      subst h
      simp [List.getElem?_replicate] at e
    | cons d ds ih =>
      intro vs m h i v e
      obtain ⟨x, r, rfl, h1, h2⟩ := h
      cases i with
      | zero =>
        simp at e
        subst e
        exact ⟨x, by simp, h1⟩
      | succ i =>
        obtain ⟨y, e2, r2⟩ := ih m h2 i v (by simpa using e)
        exact ⟨y, by simpa using e2, r2⟩
  exact key _ h
theorem fin_ok {n : Nat} {v : Val} {ce' : List Cell} {H' : Hp} {x : V} (hn : A.length = n) (p : A <+: A') (e : Same F F') (so : SO Z A' F' ce' H') (r : VRep Z.z A' F' v x) (q : PostE Z.z A F W σ Q (finD n v ce')) : Q x H' := by
  cases v with
  | im d => exact q A F' H' x (List.prefix_refl _) e (so.cut p hn) r
  | exn c ds => exact q.elim
  | cell k =>
    unfold finD at q
    obtain ⟨a, ha, rfl⟩ := r
    dsimp only at q
    by_cases hk : k < n
    · rw [if_pos hk] at q
      refine q A F' H' _ (List.prefix_refl _) e (so.cut p hn) ⟨a, ?_, rfl⟩
      obtain ⟨t, rfl⟩ := p
      rw [List.getElem?_append_left (by omega)] at ha
      exact ha
    · rw [if_neg hk] at q
      have hlen : k < ce'.length := by rw [← so.len]; exact (List.getElem?_eq_some_iff.mp ha).1
      rw [List.getElem?_eq_getElem hlen] at q
      have s2 := so.cut p hn
      have hc2 := so.ok k a _ ha (List.getElem?_eq_getElem hlen)
      have hnp : ∀ ks, ce'[k] ≠ .ptr ks := fun ks e => by
        rw [e] at q
        exact q.elim
      have q2 : PostE Z.z A F W σ Q (.ok (.cell n) (ce'.take n ++ [ce'[k]])) := by
        cases hc : ce'[k] with
        | ptr ks => exact absurd hc (hnp ks)
        | dead => rw [hc] at q; exact q
        | lst ds => rw [hc] at q; exact q
        | ins c ds => rw [hc] at q; exact q
        | dct ks vs => rw [hc] at q; exact q
      refine q2 (A ++ [a]) F' H' _ (List.prefix_append _ _) e ⟨s2.sub, by simp [s2.len], ?_, fun j b c h1 h2 => ?_⟩ ⟨a, by simp [← hn], rfl⟩
      · refine List.nodup_append.mpr ⟨s2.nd, by simp, fun b hb c hc ebc => ?_⟩
        simp at hc
        subst hc
        subst ebc
        obtain ⟨t, rfl⟩ := p
        obtain ⟨j, hj⟩ := List.getElem?_of_mem hb
        have hjl := (List.getElem?_eq_some_iff.mp hj).1
        have hj' : (A ++ t)[j]? = some b := by rw [List.getElem?_append_left hjl]; exact hj
        have := (List.getElem?_inj (List.getElem?_eq_some_iff.mp hj').1 so.nd).mp (hj'.trans ha.symm)
        omega
      · by_cases hj : j < A.length
        · rw [List.getElem?_append_left hj] at h1
          rw [List.getElem?_append_left (by rw [← s2.len]; exact hj)] at h2
          exact (s2.ok j b c h1 h2).mono (List.prefix_append _ _) (Same.refl _) rfl id
        · rw [List.getElem?_append_right (by omega)] at h1
          rw [List.getElem?_append_right (by rw [← s2.len]; omega), ← s2.len] at h2
          have hj0 : j - A.length = 0 := by
            have := (List.getElem?_eq_some_iff.mp h1).1
            simp at this
            omega
          rw [hj0] at h1 h2
          simp at h1 h2
          subst h1 h2
          cases hc : ce'[k] with
          | ptr ks => exact absurd hc (hnp ks)
          | dead => rw [hc] at hc2; exact hc2
          | lst ds => rw [hc] at hc2; exact hc2
          | ins c ds => rw [hc] at hc2; exact hc2
          | dct ks vs => rw [hc] at hc2; exact hc2
end
section
variable {P : Program} {w : World} {K : PySem.W.Frag} {mg : Str → Option Value} {base : Heap}
/-- a def keeps its promise: its body's rule -/
theorem fnD {Z : Zx} {x qual : Str} {st : Stmt} {f : Addr} {fd : FuncData} {N ps : List Str} {k nsl n : Nat} {body : DSt} (Fn : Fun K x qual st f fd) (S : FnScope N ps (defScope st)) (hN : N.length = nsl) (hn : ps.length = n)
    (hbody : ∀ (cdv : Value) (A : Around) (outer : List Env) (s : Shared) (H : Hp) (E : XK), Room k (A.deeper (PyProof.Rows.envOfC qual (defScope st) s.heap.objs.size f cdv)) →
      PSs (cxOf (L2N.CX P w) P w K mg base N qual (defScope st) f cdv A outer s H E) (defBody st) (tS Z.z (fun cls d _ H => E cls d H) body)) : FnOk P w K mg base (L2N.CX P w) (k + 1) f fd ps (spD Z (mkD nsl body) n) := by
  subst hN hn
  obtain ⟨oc, od, kV, doc, pm, an, cdv, ct, osl, rfl, lk, hcd⟩ := Fn.ex
  refine fn_of lk hcd S (fun vs H Q E ⟨A, F, ce, ds, so, r, l, p⟩ => by rw [← r.length]; exact l) fun A outer s H vs Q E hr ⟨A0, F0, ce, ds, so, r, l, p⟩ => ⟨_, hbody cdv A outer s H E hr, A0, F0, _, ce, so, vreps_start r, ?_⟩
  unfold mkD at p
  have hn := so.len
  cases e : body (ds.map some ++ List.replicate (N.length - ds.length) none) ce with
  | nx sl ce' => rw [e] at p; exact fun A' F' H' σ' pA eF so' hs' => fin_ok hn pA eF so' (show VRep Z.z A' F' (.im .non) .non by unfold VRep Rep; rfl) p
  | rt v ce' => rw [e] at p; exact fun A' F' H' x pA eF so' r' => fin_ok hn pA eF so' r' p
  | exc c es sl ce' => rw [e] at p; exact fun A' F' H' σ' dx pA eF so' hs' xo => p A0 F' H' dx (List.prefix_refl _) eF (so'.cut pA hn) xo
  | bk sl ce' => rw [e] at p; exact p.elim
  | ct sl ce' => rw [e] at p; exact p.elim
  | stuck => rw [e] at p; exact p.elim
end
def kCall (fh : DF) (vs : List Val) : DE := fun _ ce => if vs.all plainV then fh vs ce else .stuck
section
variable {X : Cx} {Z : Zy} {W : WX} {k : Nat} {fa C : Addr} {fd : FuncData} {ps : List Str} {fh : DF} {x m : Str} {p pos apos : Pos} {e o : Expr} {es : List Expr} {f : DE} {fs : List DE} {n : Nat}
theorem spD_call {A : List Addr} {F : Hp} {sl : Sl} {ce : List Cell} {σ : L2.St} {Q : VK} {vs : List Val} {xs : List V} {H : Hp} (so : SO Z.toZx A F ce H) (r : VReps Z A F vs xs) (hl : vs.length = n) (pl : vs.all plainV = true) (q : PostE Z A F W σ Q (fh vs ce)) : spD Z.toZx fh n xs H Q (WE W σ) := by
  refine ⟨A, F, ce, vs, so, r.nohd pl, hl, ?_⟩
  cases e : fh vs ce with
  | ok v ce' => rw [e] at q; exact fun A' F' H' x pA eF so' r' => q A' F' H' x pA eF so' (vrep_z rfl r')
  | exc c ds ce' => rw [e] at q; exact q
  | stuck => rw [e] at q; exact q
theorem de_call (F : FnOk X.prog X.w X.K X.mg X.base (L2N.CX X.prog X.w) k fa fd ps (spD Z.toZx fh n)) (hr : Room k X.A) (hm : X.mg x = some (.ref fa)) (hk : PySem.W.keepIn X.K (.ref fa) = true) (hb : Binds X.K fd ps []) (tw : TW X W) (ha : PA X (e :: es) (tArgs Z W fs))
    (hg : Gl X x := by rfl) (hl : fs.length = n := by rfl) (hdb : (x == ("__debug__" : Str)) = false := by decide) (he : starEach (e :: es) X.env = (false, eval e X.env) :: starEach es X.env := by rfl) (hpl : (backTo pos (starEach es X.env)).any (·.1) = false := by rfl) :
    PE X (.Call (.Name x p) (e :: es) [] pos) (tE Z W (eArgs fs (kCall fh))) :=
  (pe_callS F hr hg hm hk hb tw ha hdb he hpl).weak fun σ H Q h => tArgs_imp (fun xs H1 ⟨A, F, sl, ce, vs, so, hs, r, l, q⟩ => by
    unfold kCall at q
    by_cases hp : vs.all plainV = true
    · rw [if_pos hp] at q
      exact spD_call (sl := sl) so r (by rw [l, hl]) hp q
    · rw [if_neg hp] at q
      exact q.elim) (tN h)
theorem de_call0 (F : FnOk X.prog X.w X.K X.mg X.base (L2N.CX X.prog X.w) k fa fd ps (spD Z.toZx fh 0)) (hr : Room k X.A) (hm : X.mg x = some (.ref fa)) (hk : PySem.W.keepIn X.K (.ref fa) = true) (hb : Binds X.K fd ps []) (tw : TW X W)
    (hg : Gl X x := by rfl) (hdb : (x == ("__debug__" : Str)) = false := by decide) : PE X (.Call (.Name x p) [] [] pos) (tE Z W (eArgs [] (kCall fh))) :=
  (pe_callZS0 F hr hg hm hk hb .nil tw hdb).weak fun σ H Q ⟨A, F, sl, ce, so, hs, q⟩ => spD_call (sl := sl) so (show VReps Z A F [] [] from rfl) rfl rfl q
end
end ZZ
set_option Elab.async false
set_option linter.all false
set_option maxRecDepth 100000
namespace ZZ
open PySem PySem.Spec L2
theorem lookup_ix {Z : Zx} {F : Hp} : ∀ {l : List Str} {fs : List (Str × V)} {ds : List D} {i : Nat} {f : Str} {x : D} {n : Nat}, l.Nodup → fs.map (·.1) = l.take n → Reps Z F ds (fs.map (·.2)) → l[i]? = some f → ds[i]? = some x → ∃ v, fs.lookup f = some v ∧ Rep Z F x v
  | l, [], ds, i, f, x, n, nd, e, r, h1, h2 => by
    rw [List.map_nil] at r
    have := r.length
    have : ds = [] := List.eq_nil_of_length_eq_zero (by simpa using this)
    subst this
    simp at h2
  | [], p :: fs, ds, i, f, x, n, nd, e, r, h1, h2 => by simp at h1
  | g :: l, (a, b) :: fs, ds, i, f, x, 0, nd, e, r, h1, h2 => by simp at e
  | g :: l, (a, b) :: fs, [], i, f, x, n + 1, nd, e, r, h1, h2 => by simp at h2
  | g :: l, (a, b) :: fs, d :: ds, 0, f, x, n + 1, nd, e, r, h1, h2 => by
    simp at e h1 h2
    subst h1 h2
    obtain ⟨v, r', e2, h3, h4⟩ := reps_cons_inv r
    simp at e2
    refine ⟨b, ?_, by rw [e2.1]; exact h3⟩
    simp [List.lookup, e.1]
  | g :: l, (a, b) :: fs, d :: ds, i + 1, f, x, n + 1, nd, e, r, h1, h2 => by
    simp at e h1 h2
    obtain ⟨v, r', e2, h3, h4⟩ := reps_cons_inv r
    simp at e2
    have nd' := List.nodup_cons.mp nd
    obtain ⟨v', h5, h6⟩ := lookup_ix (fs := fs) (n := n) nd'.2 e.2 (by rw [e2.2]; exact h4) h1 h2
    refine ⟨v', ?_, h6⟩
    have hne : f ≠ a := fun z => nd'.1 (by
      rw [← e.1, ← z]
      exact List.mem_of_getElem? h1)
    have : (f == a) = false := by simpa using hne
    simp [List.lookup, this, h5]
inductive Ty where
  | t (n : String) | c (n : Nat)
  deriving DecidableEq
def D.ty : D → Ty
  | .non => .t "NoneType" | .bl _ => .t "bool" | .int _ => .t "int" | .str _ => .t "str" | .tup _ => .t "tuple" | .lst _ => .t "list" | .wl _ => .t "list" | .ins c _ => .c c | .dct _ _ => .t "dict"
def tyVal (Z : Zx) : Ty → Value
  | .t n => .type n
  | .c n => .ref (Z.cl n)
/-- isinstance(e, T): tst tells for which types -/
def kIsi (tst : Ty → Option Bool) (v : Val) : DE := fun _ ce => match v with
  | .im (.wl _) => .stuck
  | .im (.dct _ _) => .stuck
  | .im d => match tst d.ty with
    | some b => .ok (.im (.bl b)) ce
    | none => .stuck
  | _ => .stuck
section
variable {X : Cx} {Z : Zy} {W : WX} {p p2 pos : Pos} {e : Expr} {f : DE} {x : Str} {cv : V} {u : Value} {tst : Ty → Option Bool}
/-- what isinstance asks of an own class -/
structure IsiC (K : PySem.W.Frag) (C : Addr) : Prop where
  cl : Cls K C
  ha : PySem.W.findIn K (.ref C) "__class__" = some (some (.builtin "object.__class__"))
  hn : PySem.W.specialIn K (.builtin "object.__class__") "__get__" = some (some (.builtin "getset_descriptor.__get__"))
  ht : PySem.W.takesIn K (.builtin "object.__class__") = some true
  hm : PySem.W.mroIn K C (.type "object") = some true
theorem d_tyx {F H : Hp} {d : D} {y : V} (so : Same F H) (r : Rep Z.toZx F d y) (hcl : ∀ c ds, d = .ins c ds → IsiC Z.K (Z.cl c)) (hnd : ∀ ks vs, d ≠ .dct ks vs) : TyX Z.K H y (tyVal Z.toZx d.ty) := by
  cases d with
  | non => unfold Rep at r; subst r; exact .base .non
  | bl b => unfold Rep at r; subst r; exact .base (.bl b)
  | int b => unfold Rep at r; subst r; exact .base (.int b)
  | str b => unfold Rep at r; subst r; exact .base (.str b)
  | tup ds =>
    unfold Rep at r
    obtain ⟨a, vs, rfl, h1, h2⟩ := r
    rcases same_seqT so h1 with (h | ⟨o, h⟩) | ⟨o, its, n, h3, h4, _⟩
    · exact .base (.tup h)
    · exact .fTuple h
    · exact .kTuple h3 h4
  | lst ds =>
    unfold Rep at r
    obtain ⟨a, vs, rfl, h1, h2⟩ := r
    exact .base (.lst (so _ _ h1))
  | dct ks vs => exact absurd rfl (hnd ks vs)
  | ins c ds =>
    unfold Rep at r
    obtain ⟨a, dx, fs, rfl, h1, h2⟩ := r
    have q := hcl c ds rfl
    exact .base (.ins (so _ _ h1) q.cl q.ha q.hn q.ht q.hm)
  | wl ds =>
    unfold Rep at r
    obtain ⟨a, vs, rfl, h1, h2⟩ := r
    rcases so.seq h1 with (h | ⟨o, h⟩) | ⟨o, its, n, h3, h4, _⟩
    · exact .base (.lst h)
    · exact .base (.frz h)
    · exact .kList h3 h4
theorem de_isi {T : Expr} (hT : PE X T (tC cv)) (hcv : ClsV cv u) (hK : X.K = Z.K) (hk : ∀ ty b, tst ty = some b → PySem.W.kitOne X.K (tyVal Z.toZx ty) u = some b) (hcl : ∀ c b, tst (.c c) = some b → IsiC X.K (Z.cl c)) (he : PE X e (tE Z W f)) (hm : X.mg "isinstance" = none)
    (hg : Gl X "isinstance" := by rfl) (hs : starEach [e, T] X.env = (false, eval e X.env) :: starEach [T] X.env := by rfl) (hs2 : starEach [T] X.env = (false, eval T X.env) :: starEach [] X.env := by rfl) (hpl : (backTo pos (starEach [T] X.env)).any (·.1) = false := by rfl) :
    PE X (.Call (.Name "isinstance" p) [e, T] [] pos) (tE Z W (eUn (kIsi tst) f)) :=
  (pe_callB call_isi hg hm (by decide +kernel) (pa_cons he (pa_cons hT pa_nil hs2) hs) (by decide) (by decide) hs hpl).weak fun σ H Q q => tE_imp (fun x H1 ⟨A, F, sl, ce, v, so, hs, r, p⟩ => by
    unfold kIsi at p
    show rIsi X.K [x, cv] H1 Q
    split at p
    · exact p.elim
    · exact p.elim
    · rename_i d _ hnd
      split at p
      · rename_i b hb
        exact ⟨x, cv, _, u, b, rfl, hcv, by rw [hK]; exact d_tyx so.sub r (fun c ds e => by subst e; rw [← hK]; exact hcl c b hb) (fun ks vs e => hnd ks vs (by rw [e])), hk _ b hb, fin_flat so p repB⟩
      · exact p.elim
    · exact p.elim) (tE1 q)
end
end ZZ
set_option Elab.async false
set_option linter.all false
set_option maxRecDepth 100000
namespace ZZ
open PySem PySem.Spec L2
def spI1 (K : PySem.W.Frag) (f : Str) : Sp := fun vs H Q _ => ∃ a C v, vs = [.ref a, v] ∧ OexC K C ∧ PySem.W.findIn K (.ref C) f = some none ∧ H a = some (exo a C none) ∧
  ∀ dx, H dx = none → dx ≠ a → Q .non (upd (upd H dx (exd dx [(f, v)])) a (exo a C (some dx)))
def spI2 (K : PySem.W.Frag) (f g : Str) : Sp := fun vs H Q _ => ∃ a C v u, vs = [.ref a, v, u] ∧ OexC K C ∧ PySem.W.findIn K (.ref C) f = some none ∧ PySem.W.findIn K (.ref C) g = some none ∧ H a = some (exo a C none) ∧
  ∀ dx, H dx = none → dx ≠ a → Q .non (upd (upd (upd H dx (exd dx [(f, v)])) a (exo a C (some dx))) dx (exd dx [(g, u), (f, v)]))
/-- a class whose errors bear a text -/
structure ExT (K : PySem.W.Frag) (C : Addr) : Prop where
  q : PySem.W.excIn K C [.type "ValueError", .type "Exception", .type "BaseException", .type "object"] "ValueError.__new__" = true
  kC : PySem.W.keepIn K (.ref C) = true
  exC : PySem.W.subIn K (.ref C) (.type "BaseException") = some true
  tyC : PySem.W.typeIn K (.ref C) = some (.type "type")
end ZZ
set_option Elab.async false
set_option linter.all false
set_option maxRecDepth 100000
namespace ZZ
open PySem PySem.Spec L2
/-- a def of the text that keeps its promise -/
structure DOk (P : Program) (w : World) (K : PySem.W.Frag) (mg : Str → Option Value) (base : Heap) (k : Nat) (a : Addr) (ps : List Str) (sp : Sp) : Prop where
  ex : ∃ fd, FnOk P w K mg base (L2N.CX P w) k a fd ps sp ∧ Binds K fd ps []
  kp : PySem.W.keepIn K (.ref a) = true
/-- an exception's __init__ -/
structure IOk (P : Program) (w : World) (K : PySem.W.Frag) (mg : Str → Option Value) (base : Heap) (a : Addr) (ps : List Str) (sp : Sp) : Prop where
  ex : ∃ fd, FnOk P w K mg base CX0 1 a fd ps sp ∧ Binds K fd ps []
section
variable {X : Cx} {Z : Zy} {W : WX} {k n : Nat} {fa : Addr} {ps : List Str} {fh : DF} {x m nm : Str} {p pos pos2 apos : Pos} {e o : Expr} {es : List Expr} {f : DE} {fs : List DE} {c nf : Nat}
theorem de_callD (G : DOk X.prog X.w X.K X.mg X.base k fa ps (spD Z.toZx fh n)) (hr : Room k X.A) (hm : X.mg x = some (.ref fa)) (tw : TW X W) (ha : PA X (e :: es) (tArgs Z W fs))
    (hg : Gl X x := by rfl) (hl : fs.length = n := by rfl) (hdb : (x == ("__debug__" : Str)) = false := by decide) (he : starEach (e :: es) X.env = (false, eval e X.env) :: starEach es X.env := by rfl) (hpl : (backTo pos (starEach es X.env)).any (·.1) = false := by rfl) :
    PE X (.Call (.Name x p) (e :: es) [] pos) (tE Z W (eArgs fs (kCall fh))) := by
  obtain ⟨fd, F, b⟩ := G.ex
  exact de_call F hr hm G.kp b tw ha hg hl hdb he hpl
theorem de_callD0 (G : DOk X.prog X.w X.K X.mg X.base k fa ps (spD Z.toZx fh 0)) (hr : Room k X.A) (hm : X.mg x = some (.ref fa)) (tw : TW X W)
    (hg : Gl X x := by rfl) (hdb : (x == ("__debug__" : Str)) = false := by decide) : PE X (.Call (.Name x p) [] [] pos) (tE Z W (eArgs [] (kCall fh))) := by
  obtain ⟨fd, F, b⟩ := G.ex
  exact de_call0 F hr hm G.kp b tw hg hdb
/-- an error's class with one field -/
structure Ex1 (P : Program) (w : World) (K : PySem.W.Frag) (mg : Str → Option Value) (base : Heap) (Z : Zx) (c : Nat) (nm : Str) (fI : Addr) (ps : List Str) : Prop where
  o : OexC K (Z.cl c)
  i : PySem.W.findIn K (.ref (Z.cl c)) "__init__" = some (some (.ref fI))
  t : PySem.W.typeIn K (.ref fI) = some (.type "function")
  n : PySem.W.findIn K (.ref (Z.cl c)) nm = some none
  f : Z.fl c = [nm]
  g : IOk P w K mg base fI ps (spI1 K nm)
end
def kNeg (v : Val) : DE := fun _ ce => match v with
  | .im (.int i) => .ok (.im (.int (-i))) ce
  | _ => .stuck
section
variable {X : Cx} {Z : Zy} {W : WX} {e o i : Expr} {f g h : DE} {pos apos cpos p1 p2 p3 : Pos}
theorem de_neg (he : PE X e (tE Z W f)) : PE X (.UnaryOp .USub e pos) (tE Z W (eUn kNeg f)) := (pe_un un_neg he).weak fun σ H Q q => tE_imp (fun x H1 ⟨A, F, sl, ce, v, so, hs, r, p⟩ => by
  unfold kNeg at p
  split at p
  · exact ⟨_, rep_int r, fin_flat so p repI⟩
  · exact p.elim) (tE1 q)
end
structure XiC (K : PySem.W.Frag) (C : Addr) : Prop where
  hga : PySem.W.findIn K (.ref C) "__getattribute__" = some (some (.builtin "BaseException.__getattribute__"))
  hgt : PySem.W.findIn K (.ref C) "__getattr__" = some none
  hsub : PySem.W.subIn K (.ref C) (.type "BaseException") = some true
  hd : PySem.W.hasDictIn K C = true
  ha : PySem.W.findIn K (.ref C) "__class__" = some (some (.builtin "object.__class__"))
  hn : PySem.W.specialIn K (.builtin "object.__class__") "__get__" = some (some (.builtin "getset_descriptor.__get__"))
  htk : PySem.W.takesIn K (.builtin "object.__class__") = some true
  hm : PySem.W.mroIn K C (.type "object") = some true
theorem XiC.xf {K : PySem.W.Frag} {C : Addr} (h : XiC K C) : XfC K C := ⟨h.hga, h.hgt, h.hsub, h.hd⟩
end ZZ
set_option Elab.async false
set_option linter.all false
set_option maxRecDepth 100000
namespace L2
open PySem PySem.Spec PyProof.Rows
/-- a zip's records between two turns of a walk that keeps what it gives out -/
def ZHeld (z TI TO i1 i2 a b : Addr) (i : Nat) (H : Hp) (h : Heap) : Prop :=
  IsPair h TI (.ref i1) (.ref i2) ∧ (∃ x y, IsPair h TO x y) ∧ h.IsListIter i1 a i ∧ h.IsListIter i2 b i ∧ (IsZip h z TI TO .none ∨ ∃ T f xs, IsZipHeld h z TI TO T f ∧ H T = some (.tup xs))
section
variable {X : Cx} {pins : List (Addr × Obj)} {σ : L2.St} {H : Hp} {s : Shared} {z TI TO i1 i2 a b q : Addr} {i : Nat} {xs ys : List V} {x y : V} {A A1 : Around} {E : Value → Shared → Prop}
theorem ZHeld.lt (st : ZHeld z TI TO i1 i2 a b i H s.heap) : ∀ c ∈ [z, TI, TO, i1, i2], c < s.heap.objs.size := by
  obtain ⟨hTI, ⟨x0, y0, hTO⟩, ⟨o1, h1, _⟩, ⟨o2, h2, _⟩, hz⟩ := st
  have hzl : z < s.heap.objs.size := by
    rcases hz with hz | ⟨T, f, vs, hz, _⟩
    · exact Heap.lt_size hz
    · exact Heap.lt_size hz
  intro c hc
  have e' : c = z ∨ c = TI ∨ c = TO ∨ c = i1 ∨ c = i2 := by simpa using hc
  rcases e' with q | q | q | q | q
  · rw [q]; exact hzl
  · rw [q]; exact Heap.lt_size hTI
  · rw [q]; exact Heap.lt_size hTO
  · rw [q]; exact Heap.lt_size h1
  · rw [q]; exact Heap.lt_size h2
end
end L2
set_option Elab.async false
set_option linter.all false
set_option maxRecDepth 100000
namespace L2
open PySem PySem.Spec
end L2
namespace ZZ
open PySem PySem.Spec L2
end ZZ
set_option Elab.async false
set_option linter.all false
set_option maxRecDepth 100000
namespace PySem.W
open PySem PySem.Spec
end PySem.W
namespace PySem.W
open PySem PySem.Calls PyProof.Rows
end PySem.W
namespace L2
open PySem PySem.Spec
end L2
namespace ZZ
open PySem PySem.Spec L2
end ZZ
set_option Elab.async false
set_option linter.all false
set_option maxRecDepth 100000
namespace L2
open PySem PySem.Spec PyProof.Rows
end L2
namespace L2
open PySem PySem.Spec PyProof.Rows
end L2
namespace PySem.W
open PySem PySem.Spec PySem.Calls PyProof.Rows
end PySem.W
namespace ZZ
open PySem PySem.Spec L2
end ZZ
namespace L2
open PySem PySem.Spec PyProof.Rows
end L2
namespace ZZ
open PySem PySem.Spec L2
end ZZ
set_option Elab.async false
set_option linter.all false
set_option maxRecDepth 100000
namespace PySem.W
open PySem PySem.Spec PySem.Calls PyProof.Rows
end PySem.W
namespace L2
open PySem PySem.Spec PyProof.Rows NdefX
/-- in the body of the function itself -/
structure PEat (X : Cx) (body : List Stmt) (e : Expr) (t : TE) : Prop where
  run : ∀ (pins : List (Addr × Obj)) (s : Shared) (σ : St) (H : Hp) (Q : VK), Inv X pins σ H s → t σ H Q → _root_.PySem.wpAt (model X.prog X.w) X.A (.func body X.env) (eval e X.env) (EP X pins σ Q) X.xe s
structure PSat (X : Cx) (body : List Stmt) (st : List Stmt) (t : TS) : Prop where
  run : ∀ (pins : List (Addr × Obj)) (s : Shared) (σ : St) (H : Hp) (D : Ends), Inv X pins σ H s → t D σ H → _root_.PySem.wpAt (model X.prog X.w) X.A (.func body X.env) (execs st X.env) (SP X pins D) X.xe s
end L2
namespace L2
open PySem PySem.Spec PyProof.Rows NdefX
end L2
namespace L2
open PySem PySem.Spec PyProof.Rows NdefX
end L2
set_option Elab.async false
set_option linter.all false
set_option maxRecDepth 100000
namespace L2
open PySem PySem.Spec PyProof.Rows NdefX
section
variable {X : Cx} {CX : CXT} {body : List Stmt} {a b e o : Expr} {es rest : List Expr} {ta tb : TE} {t : TA} {u : TS} {st : Stmt} {sts : List Stmt} {ts : TS} {pos apos pn : Pos} {m y : Str} {k : Nat} {E : L2.St → XK}
theorem PSat.weak {t t' : TS} (h : PSat X body sts t) (hw : ∀ D σ H, t' D σ H → t D σ H) : PSat X body sts t' := ⟨fun pins s σ H D I q => h.run pins s σ H D I (hw D σ H q)⟩
theorem PEat.weak {t t' : TE} (h : PEat X body e t) (hw : ∀ σ H Q, t' σ H Q → t σ H Q) : PEat X body e t' := ⟨fun pins s σ H Q I q => h.run pins s σ H Q I (hw σ H Q q)⟩
end
end L2
namespace ZZ
open PySem PySem.Spec L2 NdefX
theorem DOk.mono {P : Program} {w : World} {K : PySem.W.Frag} {mg : Str → Option Value} {base : Heap} {j k : Nat} {a : Addr} {ps : List Str} {sp : Sp} (d : DOk P w K mg base j a ps sp) (h : j ≤ k) : DOk P w K mg base k a ps sp := by
  obtain ⟨fd, F, b⟩ := d.ex
  exact ⟨⟨fd, F.mono h, b⟩, d.kp⟩
end ZZ
set_option Elab.async false
set_option linter.all false
set_option maxRecDepth 100000
namespace ZZ
open PySem PySem.Spec L2 NdefX
end ZZ
set_option Elab.async false
set_option linter.all false
set_option maxRecDepth 100000
namespace L2
open PySem PySem.Spec
end L2
namespace ZZ
open PySem PySem.Spec L2 NdefX
end ZZ
set_option Elab.async false
set_option linter.all false
set_option maxRecDepth 100000
namespace L2
open PySem PySem.Spec PyProof.Rows
theorem DpAll.len {K : PySem.W.Frag} {H : Hp} : ∀ {zs : List V} {ps : List PyData}, DpAll K H zs ps → zs.length = ps.length
  | _, _, .nil => rfl
  | _, _, .cons _ t => by rw [List.length_cons, List.length_cons, DpAll.len t]
end L2
namespace ZZ
open PySem PySem.Spec L2
end ZZ
namespace ZZ
open PySem PySem.Spec L2
end ZZ
set_option Elab.async false
set_option linter.all false
set_option maxRecDepth 100000
namespace L2
open PySem PySem.Spec PyProof.Rows
section
variable {X : Cx} {o i lo hi value : Expr} {pos pos' p2 : Pos} {td ty tv tl th : TE}
/-- o[i] = value -/
def tSetIx (tv td ty : TE) : TS := fun D σ H => tv σ H fun v H1 => td σ H1 fun x H2 => ty σ H2 fun y H3 => rSetL x y v H3 fun H4 => D.nx σ H4
theorem ps_setIx (ho : PE X o td) (hi : PE X i ty) (hv : PE X value tv) (hs : swapsWith value (some (.Subscript o i pos')) pos.line X.env = pure false := by rfl) :
    PS X (.Assign [.Subscript o i pos'] value pos) (tSetIx tv td ty) := by
  refine ⟨fun pins s σ H D I h => ?_⟩
  refine wpAny_Assign_Subscript (thn (hv.run pins s σ H _ I h) fun r s1 ⟨v, H1, I1, rv, q1⟩ => thn (ho.run pins s1 σ H1 _ I1 q1) fun u s2 ⟨x, H2, I2, rx, q2⟩ => thn (hi.run pins s2 σ H2 _ I2 q2) fun iv s3 ⟨y, H3, I3, ry, q3⟩ => ?_) hs
  exact wpAny_mono (set_list pins s3 σ H3 x y v u iv r _ I3 rx ry rv q3) (fun _ s' ⟨H', I', q⟩ => ⟨σ, H', I', q⟩) fun _ _ z => z
end
end L2
namespace ZZ
open PySem PySem.Spec L2
def sSetIx (fo fi fv : DE) : DSt := sExp fv fun v => sExp fo fun u => sExp fi fun i sl ce => match u, v, i with
  | .cell n, .im d, .im (.int k) => match ce[n]? with
    | some (.lst ds) => match ixN ds.length k with
      | some j => .nx sl (ce.set n (.lst (ds.set j d)))
      | none => .stuck
    | _ => .stuck
  | _, _, _ => .stuck
section
variable {X : Cx} {Z : Zy} {W : WX} {k : Nat} {fa : Addr} {ps : List Str} {fh : DF} {p pos pos' p2 : Pos} {a b e o i lo hi value : Expr} {f g fo fi fv fl fhi : DE} {c : Nat}
theorem ds_setIx (ho : PE X o (tE Z W fo)) (hi : PE X i (tE Z W fi)) (hv : PE X value (tE Z W fv)) (hs : swapsWith value (some (.Subscript o i pos')) pos.line X.env = pure false := by rfl) : PS X (.Assign [.Subscript o i pos'] value pos) (tS Z W (sSetIx fo fi fv)) :=
  (ps_setIx ho hi hv hs).weak fun D σ H h => tE_imp (fun v H1 ⟨A, F, sl, ce, vv, so, hs, rv, p⟩ => by
    refine ⟨A, F, sl, ce, so, hs, (PostS.exp so hs p).imp fun x H2 ⟨A1, F1, ce1, vx, p1, e1, so1, rx, q1⟩ => ?_⟩
    have rv1 := rv.mono p1 e1
    have hs1 := hs.mono p1 e1
    refine ⟨A1, F1, sl, ce1, so1, hs1, (PostS.exp so1 hs1 q1).imp fun y H3 ⟨A2, F2, ce2, vy, p2, e2, so2, ry, q2⟩ => ?_⟩
    have rv2 := rv1.mono p2 e2
    have rx2 := rx.mono p2 e2
    have hs2 := hs1.mono p2 e2
    split at q2
    · rename_i n d kk _ _
      split at q2
      · rename_i ds hk
        split at q2
        · rename_i j hj
          obtain ⟨l, ws, hA, rfl, hF, h2, h3⟩ := cell_rd so2 rx2 hk
          refine ⟨l, ws, kk, j, rfl, rep_int ry, h2, by rw [← h3.length]; exact hj, ?_⟩
          exact nxS (so2.write (c := .lst (ds.set j d)) hA hF ⟨hF, _, upd_same, h3.set j rv2⟩) hs2 q2
        · exact q2.elim
      · exact q2.elim
    · exact q2.elim) (tS1 h)
end
end ZZ
set_option Elab.async false
set_option linter.all false
set_option maxRecDepth 100000
namespace L2
open PySem PySem.Spec PyProof.Rows
end L2
namespace ZZ
open PySem PySem.Spec L2
end ZZ
namespace ZZ
open PySem PySem.Spec L2
end ZZ
set_option Elab.async false
set_option linter.all false
set_option maxRecDepth 100000
namespace ZZ
open PySem PySem.Spec L2
end ZZ
set_option Elab.async false
set_option linter.all false
set_option maxRecDepth 100000
namespace ZZ
open PySem PySem.Spec L2
end ZZ
set_option Elab.async false
set_option linter.all false
set_option maxRecDepth 100000
namespace ZZ
open PySem PySem.Spec L2
section
variable {Z : Zx} {A : List Addr} {F : Hp}
theorem VReps.append {Y : Zy} : ∀ {ds es : List Val} {vs ws : List V}, VReps Y A F ds vs → VReps Y A F es ws → VReps Y A F (ds ++ es) (vs ++ ws)
  | [], es, vs, ws, h, h' => by
    unfold VReps at h
    subst h
    exact h'
  | d :: ds, es, vs, ws, h, h' => by
    obtain ⟨x, r, rfl, h1, h2⟩ := h
    exact ⟨x, r ++ ws, rfl, h1, VReps.append h2 h'⟩
end
end ZZ
set_option Elab.async false
set_option linter.all false
set_option maxRecDepth 100000
set_option maxHeartbeats 2000000
namespace ZZ
open PySem PySem.Spec L2
end ZZ
set_option Elab.async false
set_option linter.all false
set_option maxRecDepth 100000
namespace ZZ
open PySem PySem.Spec L2
end ZZ
set_option Elab.async false
set_option linter.all false
set_option maxRecDepth 100000
namespace ZH
open PySem PySem.Spec PyProof.Rows L2 ZZ
section
variable {K : Fr}
theorem fun_z {d : DefZ} (h : FnAt K d) (h1 : d.clo = []) (h2 : d.dfl = none) : ∃ fd, Fun K d.name d.qual d.st d.a fd := by
  obtain ⟨oc, od, doc, pm, an, ct, osl, q, c, kp⟩ := h
  rw [h1, h2] at q
  exact ⟨_, fun_mk (st := d.st) q c kp⟩
theorem excB_ok {C : Addr} (h : excB K C = true) : ∃ nm q N bs bm sn sub ab col dd k0 k1 k2 k3 k5, K.lookup C = some (excClassObj nm q C N bs bm true sn sub ab col dd k0 k1 k2 k3 k5 "ValueError.__new__") ∧ PySem.HandSPX.refsVE bm = true := by
  unfold excB at h
  split at h
  · rename_i t dd cd sl e
    obtain ⟨h1, h⟩ := ba h
    obtain ⟨h2, h⟩ := ba h
    obtain ⟨h3, h⟩ := ba h
    obtain ⟨h4, h5⟩ := ba h
    obtain ⟨nm, bs, mro, N, q, hd, sn, sub, ab, col, hdel⟩ := cd
    have e1 : t = "type" := of_decide_eq_true h1
    have e2 : hd = true := h2
    have e3 : hdel = false := by simpa using h3
    subst e1 e2 e3
    cases mro with
    | nil => cases h4
    | cons m bm =>
      cases m with
      | ref c =>
        obtain ⟨h6, h7⟩ := ba h4
        have e4 : c = C := of_decide_eq_true h6
        subst e4
        split at h5
        · rename_i k0 k1 k2 k3 id k5 e5
          have e6 : id = "ValueError.__new__" := of_decide_eq_true h5
          subst e6
          obtain ⟨l⟩ := sl
          have e7 : l = [k0, k1, k2, k3, some (.builtin "ValueError.__new__"), k5] := e5
          subst e7
          exact ⟨nm, q, N, bs, bm, sn, sub, ab, col, dd, k0, k1, k2, k3, k5, e, h7⟩
        · cases h5
      | _ => cases h4
  · cases h
theorem law_binds {d : DefZ} {fd : FuncData} {x : Str} (F : Fun K d.name d.qual d.st d.a fd) (hb : ∀ (kV doc pm : Value) (an : Option Addr) (cdv ct : Value) (s : Shared) (v : Value), BindsTo s (PySem.W.fnOf d.name d.qual (defArgs d.st) (defBody d.st) (defScope d.st) .none kV doc pm an cdv ct) ⟨[v], []⟩ [(x, v)]) :
    ∀ (s : Shared) (v : Value), BindsTo s fd ⟨[v], []⟩ [(x, v)] := by
  obtain ⟨oc, od, kV, doc, pm, an, cdv, ct, osl, rfl, lk, hcd⟩ := F.ex
  exact fun s v => hb _ _ _ _ _ _ s v
end
/-- a law's end: the written part is what the hook tells -/
theorem walk_ofZ {l : PySem.W.OpenLaw} {n k : Nat} {q : Program} {loose : List Str} {XP : (Str → Option Value) → Heap → Prop} {YP : World → Heap → Prop} {d : DefRec} {CX : World → CXT} {x : Str}
    (hn : l.most = some n) (hn2 : n ≤ sizeLine) (hdf : d.params.defaults = []) (hr : Room k callerA)
    (F : ∀ (w : World) (mg : Str → Option Value) (fa : Addr) (h : Heap), YP w h → h.Ns mainGlobals mg → mg d.name = some (.ref fa) →
      ∃ (K : Fr) (fd : FuncData) (sp : Sp), K.In h ∧ (∀ (s : Shared) (u : Value), BindsTo s fd ⟨[u], []⟩ [(x, u)]) ∧ (∀ (H : Hp) (a : Addr) (ns : List Int), ns.length ≤ n → Only H → SqL K H a (ns.map V.int) → sp [.ref a] H (fun v _ => v = .bl true) fun _ _ _ => False) ∧
        ∀ base : Heap, K.In base → base.Ns mainGlobals mg → FnOk l.prog w K mg base (CX w) k fa fd [x] sp)
    (E : ∀ (w : World) (H : Hp) (s : Shared) (e : Value) (s' : Shared), CX w [] H s (fun _ _ _ => False) e s' → False) :
    PySem.W.WalkO q loose XP YP l.row.toRowW d [] (fun f vs => PySem.call f vs) := by
  refine Att.attach_call hn hdf fun w s0 s1 mg mb fa o pm cd doc a vs ns G Y h1 h2 h3 hm h4 h5 hl hS => ?_
  obtain ⟨K, fd, sp, KX, hb, hs, hF⟩ := F w mg fa _ Y G.T.g hm
  exact law_call KX G.T.g G.T.b G.T.builtins G.T.nolimit hS h4 h5 (Nat.le_trans hl hn2) hr hF hb (fun H hO hq => hs H a ns hl hO hq) fun H e s' => E w H s1 e s'
end ZH
set_option Elab.async false
set_option linter.all false
set_option maxRecDepth 100000
namespace L2
open PySem PySem.Spec PyProof.Rows ZZ
/-- the dict at a -/
def DcAt (X : Cx) (H : Hp) (a : Addr) (xs : List (NestedKey × Value × Value)) : Prop :=
  (a == sysModules) = false ∧ xs.length ≤ sizeLine ∧ (∃ ep, H a = some (.ext (rawV X.w a xs ep))) ∧ ∀ pins σ s, Inv X pins σ H s → DictV X.w s.heap a xs
section
variable {X : Cx} {pins : List (Addr × Obj)} {σ : L2.St} {H : Hp} {s : Shared} {a : Addr} {xs : List (NestedKey × Value × Value)} {k : NestedKey} {u : Value}
theorem DcAt.none (g : DcAt X H a xs) : ∃ o, H a = some o := let ⟨_, _, ⟨ep, e⟩, _⟩ := g; ⟨_, e⟩
end
end L2
set_option Elab.async false
set_option linter.all false
set_option maxRecDepth 100000
namespace L2
open PySem PySem.Spec PyProof.Rows ZZ
end L2
namespace ZZ
open PySem PySem.Spec L2
end ZZ
set_option Elab.async false
set_option linter.all false
set_option maxRecDepth 100000
namespace ZZ
open PySem PySem.Spec L2
end ZZ
set_option Elab.async false
set_option linter.all false
set_option maxRecDepth 100000
namespace ZZ
open PySem PySem.Spec L2
end ZZ
set_option Elab.async false
set_option linter.all false
set_option maxRecDepth 100000
namespace RZ
open PySem PySem.Spec PyProof.Rows L2
end RZ
namespace ZZ
open PySem PySem.Spec L2
end ZZ
set_option Elab.async false
set_option linter.all false
set_option maxRecDepth 100000
namespace PySem.W
open PySem PySem.Calls PyProof.Rows
end PySem.W
namespace StX
open PySem PySem.Spec PyProof.Rows L2
/-- a def called with positional values and keywords ks -/
def FnRK (P : Program) (w : World) (K : PySem.W.Frag) (mg : Str → Option Value) (base : Heap) (CX : CXT) (k : Nat) (f : Addr) (ks : List Str) (sp : List V → Sp) : Prop :=
  ∀ (A : Around) (outer : List Env) (s : Shared) (H : Hp) (us ws : List Value) (vs zs : List V) (Q : VK) (E : XK), Room k A → Env0 P w K mg base A outer s H → Vals vs us → Vals zs ws → ws.length = ks.length → sp zs vs H Q E →
    codeAny (model P w) A (.call (.ref f) ⟨us, ks.zip ws⟩) (CR CX outer P w H s Q E) s
section
variable {CX : CXT} {P : Program} {w : World} {K : PySem.W.Frag} {mg : Str → Option Value} {base : Heap} {k n : Nat} {f : Addr} {name qual : Str} {params : Arguments} {body : List Stmt} {scope : Scope} {dV kV doc pm cdv ct oc : Value} {an od : Option Addr}
  {osl : Array (Option Value)} {N ps ks : List Str} {sp : Sp}
theorem FnRK.mono {sp : List V → Sp} {j : Nat} (F : FnRK P w K mg base CX j f ks sp) (h : j ≤ k) : FnRK P w K mg base CX k f ks sp := fun A outer s H us ws vs zs Q E hr => F A outer s H us ws vs zs Q E (hr.mono h)
end
end StX
namespace ZZ
open PySem PySem.Spec L2
end ZZ
namespace ZH
open PySem PySem.Spec L2 ZZ
end ZH
set_option Elab.async false
set_option linter.all false
set_option maxRecDepth 100000
namespace PySem
open Sem (wp)
end PySem
namespace L2
open PySem PySem.Spec PyProof.Rows ZZ
end L2
namespace ZZ
open PySem PySem.Spec L2
end ZZ
set_option Elab.async false
set_option linter.all false
set_option maxRecDepth 100000
namespace RZ
open PySem PySem.Spec PyProof.Rows L2 ZZ
end RZ
namespace ZZ
open PySem PySem.Spec L2 RZ
end ZZ
set_option Elab.async false
set_option linter.all false
set_option maxRecDepth 100000
namespace L2
open PySem PySem.Spec PyProof.Rows L2H
end L2
namespace ZZ
open PySem PySem.Spec L2
end ZZ
set_option Elab.async false
set_option linter.all false
set_option maxRecDepth 100000
namespace L2
open PySem PySem.Spec PyProof.Rows
end L2
namespace ZZ
open PySem PySem.Spec L2
def itLT : Val → Option (List D)
  | .im (.lst ds) => some ds
  | .im (.tup ds) => some ds
  | _ => none
end ZZ
namespace L2
open PySem PySem.Spec PyProof.Rows
end L2
namespace ZZ
open PySem PySem.Spec L2
end ZZ
set_option Elab.async false
set_option linter.all false
set_option maxRecDepth 100000
namespace ZZ
open PySem PySem.Spec L2
/-- an error with two fields -/
structure Ex2 (P : Program) (w : World) (K : PySem.W.Frag) (mg : Str → Option Value) (base : Heap) (Z : Zx) (c : Nat) (nm nm2 : Str) (fI : Addr) (ps : List Str) : Prop where
  o : OexC K (Z.cl c)
  i : PySem.W.findIn K (.ref (Z.cl c)) "__init__" = some (some (.ref fI))
  t : PySem.W.typeIn K (.ref fI) = some (.type "function")
  n : PySem.W.findIn K (.ref (Z.cl c)) nm = some none
  m : PySem.W.findIn K (.ref (Z.cl c)) nm2 = some none
  f : Z.fl c = [nm2, nm]
  g : IOk P w K mg base fI ps (spI2 K nm nm2)
end ZZ
set_option Elab.async false
set_option linter.all false
set_option maxRecDepth 100000
namespace ZZ
open PySem PySem.Spec L2
end ZZ
set_option Elab.async false
set_option linter.all false
set_option maxRecDepth 100000
namespace ZZ
open PySem PySem.Spec L2
end ZZ
set_option Elab.async false
set_option linter.all false
set_option maxRecDepth 100000
namespace L2
open PySem PySem.Spec PyProof.Rows
end L2
namespace ZZ
open PySem PySem.Spec L2
end ZZ
set_option Elab.async false
set_option linter.all false
set_option maxRecDepth 100000
namespace StX
open PySem PySem.Spec PyProof.Rows L2
/-- t looks one name up in the dict at D and goes on as t' -/
def KwLook {α : Type} (D : Addr) (nm : Str) (u : Value) (t t' : Sem α) : Prop := ∃ (β γ : Type) (k1 : Option Value → Sem β) (k2 : β → Sem γ) (k3 : γ → Sem α) (a : β), t = ((nsGet D nm >>= k1) >>= k2) >>= k3 ∧ k1 (some u) = pure a ∧ (k2 a >>= k3) = t'
theorem KwLook.run {α : Type} {M : Model} {A : Around} {K : PySem.W.Frag} {s : Shared} {D : Addr} {nm : Str} {u : Value} {t t' : Sem α} {Q : α → Shared → Prop} {E : Value → Shared → Prop} (X : K.In s.heap) (hu : PySem.W.nsIn K D nm = some (some u)) (h : KwLook D nm u t t') (q : wpAny M A t' Q E s) : wpAny M A t Q E s := by
  obtain ⟨β, γ, k1, k2, k3, a, e1, e2, e3⟩ := h
  have l1 : PySem.W.Looks M s.heap (nsGet D nm >>= k1) a := (PySem.W.looks_nsIn X hu).andThen (PySem.W.Looks.of_pure e2)
  rw [e1, bind_assoc]
  exact wpAny_bind (l1.here (e3 ▸ q))
end StX
namespace ZZ
open PySem PySem.Spec L2 ZH
/-- such a def, called without the keyword: dv stands behind the first n -/
structure DOkSD (P : Program) (w : World) (K : PySem.W.Frag) (mg : Str → Option Value) (base : Heap) (Z : Zx) (k : Nat) (f : Addr) (n : Nat) (dv : D) (fh : DF) : Prop where
  F : FnR P w K mg base (L2N.CX P w) k f fun vs H Q E => ∃ A F ce ds, SO Z A F ce H ∧ VReps Z.z A F ds vs ∧ PostE Z.z A F (fun c d _ H => E c d H) [] Q (fh (ds.take n ++ [.im dv] ++ ds.drop n) ce)
  kp : PySem.W.keepIn K (.ref f) = true
theorem DOkSD.mono {P w K mg base Z k j f n dv fh} (G : DOkSD P w K mg base Z k f n dv fh) (h : k ≤ j) : DOkSD P w K mg base Z j f n dv fh := ⟨fun A outer s H us vs Q E hr => G.F A outer s H us vs Q E (hr.mono h), G.kp⟩
end ZZ
namespace ZH
open PySem PySem.Spec L2 ZZ
end ZH
set_option Elab.async false
set_option linter.all false
set_option maxRecDepth 100000
namespace ZZ
open PySem PySem.Spec L2 PyProof.Rows
/-- what is wanted behind it -/
def PostG (Z : Zy) (A : List Addr) (F : Hp) (W : WX) (D : GEnds) (r : List ZZ.D × Out) : Prop := ∀ A0 F0 ys0, A <+: A0 → Same F F0 → Reps Z.toZx F0 r.1 ys0 → match r.2 with
  | .nx sl ce => ∀ A' F' H' σ', A0 <+: A' → Same F0 F' → SO Z.toZx A' F' ce H' → SL Z A' F' sl σ' → D.nx ys0 σ' H'
  | .bk sl ce => ∀ A' F' H' σ', A0 <+: A' → Same F0 F' → SO Z.toZx A' F' ce H' → SL Z A' F' sl σ' → D.bk ys0 σ' H'
  | .ct sl ce => ∀ A' F' H' σ', A0 <+: A' → Same F0 F' → SO Z.toZx A' F' ce H' → SL Z A' F' sl σ' → D.ct ys0 σ' H'
  | .rt v ce => ∀ A' F' H' x, A0 <+: A' → Same F0 F' → SO Z.toZx A' F' ce H' → VRep Z A' F' v x → D.rt ys0 x H'
  | .exc c es sl ce => ∀ A' F' H' σ' dx, A0 <+: A' → Same F0 F' → SO Z.toZx A' F' ce H' → SL Z A' F' sl σ' → ExcOk Z.toZx F' c es dx → W (.ref (Z.cl c)) dx σ' H'
  | .stuck => False
theorem PostG.mono {Z : Zy} {A A' : List Addr} {F F' : Hp} {W : WX} {D : GEnds} {r : List ZZ.D × Out} (p : A <+: A') (e : Same F F') (h : PostG Z A F W D r) : PostG Z A' F' W D r :=
  fun A0 F0 ys0 p0 e0 r0 => h A0 F0 ys0 (p.trans p0) (e.trans e0) r0
/-- a plain outcome, at the rows ys -/
theorem PostG.at {Z : Zy} {A : List Addr} {F : Hp} {W : WX} {D : GEnds} {ds : List ZZ.D} {o : Out} {ys : List V} (h : PostG Z A F W D (ds, o)) (r : Reps Z.toZx F ds ys) : PostS Z A F W (D.at ys) o := by
  have q := h A F ys (List.prefix_refl _) (Same.refl _) r
  cases o <;> exact q
end ZZ
set_option Elab.async false
set_option linter.all false
set_option maxRecDepth 100000
set_option maxHeartbeats 1000000
namespace ZZ
open PySem PySem.Spec L2 PyProof.Rows GenW
end ZZ
set_option Elab.async false
set_option linter.all false
set_option maxRecDepth 100000
namespace ZZ
open PySem PySem.Spec L2
end ZZ
set_option Elab.async false
set_option linter.all false
set_option maxRecDepth 100000
namespace ZZ
open PySem PySem.Spec L2
end ZZ
set_option Elab.async false
set_option linter.all false
set_option maxRecDepth 100000
namespace ZZ
open PySem PySem.Spec L2 PyProof.Rows GenW
/-- a generator that has handed out a value -/
def sleeps : GenState → Prop
  | .suspended .. => True
  | _ => False
/-- all that stands in H stands in H' -/
def UpH (H H' : Hp) : Prop := ∀ b u, H b = some u → H' b = some u
theorem UpH.refl (H : Hp) : UpH H H := fun _ _ h => h
/-- what is wanted; yl: at a value that is handed out -/
structure YEnds where
  nx : List V → L2.St → Hp → Prop
  rt : List V → VK
  bk : List V → L2.St → Hp → Prop := fun _ _ _ => False
  ct : List V → L2.St → Hp → Prop := fun _ _ _ => False
  yl : List V → V → Hp → (Hp → Prop) → Prop
def YEnds.at (D : YEnds) (ys : List V) : Ends where
  nx := D.nx ys
  rt := D.rt ys
  bk := D.bk ys
  ct := D.ct ys
end ZZ
set_option Elab.async false
set_option linter.all false
set_option maxRecDepth 100000
namespace ZZ
open PySem PySem.Spec L2 PyProof.Rows GenW
end ZZ
set_option Elab.async false
set_option linter.all false
set_option maxRecDepth 100000
namespace ZZ
open PySem PySem.Spec L2 PyProof.Rows
/-- at each value: what has gone out is a part of out -/
def AtY (Z : Zy) (A : List Addr) (F : Hp) (c0 : List Cell) (out : List D) (D : YEnds) : Prop :=
  ∀ A' F' ce' H' ds d ys x, A <+: A' → Same F F' → SO Z.toZx A' F' ce' H' → ce'.take c0.length = c0 → Reps Z.toZx F' ds ys → Rep Z.toZx F' d x → ds ++ [d] <+: out → D.yl ys x H' (fun J => ∃ F2, Same F' F2 ∧ SO Z.toZx A' F2 ce' J)
theorem AtY.mono {Z : Zy} {A A' : List Addr} {F F' : Hp} {c0 : List Cell} {out : List D} {D : YEnds} (h : AtY Z A F c0 out D) (p : A <+: A') (e : Same F F') : AtY Z A' F' c0 out D :=
  fun A2 F2 ce2 H2 ds d ys x p2 e2 => h A2 F2 ce2 H2 ds d ys x (p.trans p2) (e.trans e2)
theorem AtY.sub {Z : Zy} {A : List Addr} {F : Hp} {c0 : List Cell} {out o2 : List D} {D : YEnds} (h : AtY Z A F c0 out D) (q : o2 <+: out) : AtY Z A F c0 o2 D :=
  fun A2 F2 ce2 H2 ds d ys x p2 e2 s t r1 r2 l => h A2 F2 ce2 H2 ds d ys x p2 e2 s t r1 r2 (l.trans q)
end ZZ
set_option Elab.async false
set_option linter.all false
set_option maxRecDepth 100000
namespace ZZ
open PySem PySem.Spec L2 PyProof.Rows
end ZZ
set_option Elab.async false
set_option linter.all false
set_option maxRecDepth 100000
namespace ZZ
open PySem PySem.Spec L2 PyProof.Rows GenW
end ZZ
set_option Elab.async false
set_option linter.all false
set_option maxRecDepth 100000
set_option maxHeartbeats 1000000
namespace ZZ
open PySem PySem.Spec L2 PyProof.Rows GenW
end ZZ
set_option Elab.async false
set_option linter.all false
set_option maxRecDepth 100000
set_option maxHeartbeats 1000000
namespace ZZ
open PySem PySem.Spec L2 PyProof.Rows GenW
end ZZ
set_option Elab.async false
set_option linter.all false
set_option maxRecDepth 100000
namespace ZZ
open PySem PySem.Spec L2 PyProof.Rows GenW
end ZZ
set_option Elab.async false
set_option linter.all false
set_option maxRecDepth 100000
set_option maxHeartbeats 1000000
namespace ZZ
open PySem PySem.Spec L2 PyProof.Rows GenW
/-- the twin that cannot be woken -/
def twin : GenState → GenState
  | .suspended _ l c p fs cl => .suspended (fun _ => .unsupported "") l c p fs cl
  | x => x
def flatF : List Frame → Bool
  | [] => true
  | .ret .. :: r => flatF r
  | .gen .. :: _ => false
def flatG : GenState → Bool
  | .suspended _ _ _ _ fs _ => flatF fs
  | _ => true
/-- old: the sleepers; a: with their twins, b: with themselves -/
structure RelG (old : Nat → Option GenState) (a b : Array GenState) : Prop where
  size : b.size = a.size
  oth : ∀ i, old i = none → b[i]? = a[i]? ∧ ∀ x, a[i]? = some x → flatG x = true
  own : ∀ i y, old i = some y → sleeps y ∧ a[i]? = some (twin y) ∧ b[i]? = some y
theorem RelG.set {old : Nat → Option GenState} {a b : Array GenState} {g : Nat} {x : GenState} (r : RelG old a b) (hg : old g = none) (hx : flatG x = true) : RelG old (a.setIfInBounds g x) (b.setIfInBounds g x) := by
  refine ⟨by simp [r.size], fun i hi => ?_, fun i y hy => ?_⟩
  · obtain ⟨e, fl⟩ := r.oth i hi
    by_cases h : g = i
    · subst h
      refine ⟨by rw [Array.getElem?_setIfInBounds_self, Array.getElem?_setIfInBounds_self, r.size], fun z hz => ?_⟩
      rw [Array.getElem?_setIfInBounds_self] at hz
      split at hz
      · cases hz; exact hx
      · cases hz
    · rw [Array.getElem?_setIfInBounds_ne h, Array.getElem?_setIfInBounds_ne h]
      exact ⟨e, fl⟩
  · have h : g ≠ i := fun h => by rw [h] at hg; rw [hg] at hy; cases hy
    rw [Array.getElem?_setIfInBounds_ne h, Array.getElem?_setIfInBounds_ne h]
    exact r.own i y hy
theorem RelG.lt {old : Nat → Option GenState} {a b : Array GenState} {i : Nat} {y : GenState} (r : RelG old a b) (h : old i = some y) : i < a.size := by
  obtain ⟨_, e, _⟩ := r.own i y h
  exact (Array.getElem?_eq_some_iff.mp e).1
theorem RelG.push {old : Nat → Option GenState} {a b : Array GenState} {x : GenState} (r : RelG old a b) (hx : flatG x = true) : RelG old (a.push x) (b.push x) := by
  refine ⟨by simp [r.size], fun i hi => ?_, fun i y hy => ?_⟩
  · obtain ⟨e, fl⟩ := r.oth i hi
    rw [Array.getElem?_push, Array.getElem?_push, r.size, e]
    refine ⟨rfl, fun z hz => ?_⟩
    split at hz
    · cases hz; exact hx
    · exact fl z hz
  · have h := r.lt hy
    obtain ⟨s, e1, e2⟩ := r.own i y hy
    have n1 : ¬ i = a.size := Nat.ne_of_lt h
    rw [Array.getElem?_push, Array.getElem?_push, r.size, if_neg n1, if_neg n1]
    exact ⟨s, e1, e2⟩
/-- asleep: old or its frames are flat -/
theorem RelG.at {old : Nat → Option GenState} {a b : Array GenState} {g : Nat} {x : GenState} (r : RelG old a b) (h : a[g]? = some x) : (old g = none ∧ b[g]? = some x ∧ flatG x = true) ∨ ∃ y, old g = some y ∧ sleeps y ∧ x = twin y ∧ b[g]? = some y := by
  cases e : old g with
  | none =>
    obtain ⟨e1, e2⟩ := r.oth g e
    exact .inl ⟨rfl, e1.trans h, e2 x h⟩
  | some y =>
    obtain ⟨s, e1, e2⟩ := r.own g y e
    rw [h] at e1
    exact .inr ⟨y, rfl, s, by cases e1; rfl, e2⟩
open Sem (wp)
end ZZ
set_option Elab.async false
set_option linter.all false
set_option maxRecDepth 100000
set_option maxHeartbeats 2000000
namespace ZZ
open PySem PySem.Spec L2 PyProof.Rows GenW
end ZZ
set_option Elab.async false
set_option linter.all false
set_option maxRecDepth 100000
set_option maxHeartbeats 1000000
namespace ZZ
open PySem PySem.Spec L2 PyProof.Rows GenW
end ZZ
set_option Elab.async false
set_option linter.all false
set_option maxRecDepth 100000
namespace ZZ
open PySem PySem.Spec L2 PyProof.Rows GenW
end ZZ
set_option Elab.async false
set_option linter.all false
set_option maxRecDepth 100000
namespace ZZ
open PySem PySem.Spec L2 PyProof.Rows
end ZZ
set_option Elab.async false
set_option linter.all false
set_option maxRecDepth 100000
set_option maxHeartbeats 2000000
namespace ZZ
open PySem PySem.Spec PySem.W PyProof.Rows L2 Builtin
end ZZ
namespace ZZ
open PySem PySem.Spec PySem.W PyProof.Rows L2 Builtin
end ZZ
namespace ZZ
open PySem PySem.Spec PySem.W PyProof.Rows L2
end ZZ
set_option Elab.async false
set_option linter.all false
set_option maxRecDepth 100000
namespace PySem
open Sem (wp)
end PySem
namespace L2
open PySem PySem.Spec PyProof.Rows
def ZHeldS (z TI TO i1 i2 b : Addr) (w : Str) (t : Tok) (i : Nat) (H : Hp) (h : Heap) : Prop :=
  IsPair h TI (.ref i1) (.ref i2) ∧ (∃ x y, IsPair h TO x y) ∧ h.IsStrIter i1 (strIterType w) w t i ∧ h.IsListIter i2 b i ∧ (IsZip h z TI TO .none ∨ ∃ T f xs, IsZipHeld h z TI TO T f ∧ H T = some (.tup xs))
section
variable {X : Cx} {pins : List (Addr × Obj)} {σ : L2.St} {H : Hp} {s : Shared} {z TI TO i1 i2 b q : Addr} {i : Nat} {w : Str} {t : Tok} {ys : List V} {y : V} {c : Nat} {A A1 : Around} {E : Value → Shared → Prop}
theorem ZHeldS.lt (st : ZHeldS z TI TO i1 i2 b w t i H s.heap) : ∀ c ∈ [z, TI, TO, i1, i2], c < s.heap.objs.size := by
  obtain ⟨hTI, ⟨x0, y0, hTO⟩, ⟨o1, h1, _⟩, ⟨o2, h2, _⟩, hz⟩ := st
  have hzl : z < s.heap.objs.size := by
    rcases hz with hz | ⟨T, f, vs, hz, _⟩
    · exact Heap.lt_size hz
    · exact Heap.lt_size hz
  intro c hc
  have e' : c = z ∨ c = TI ∨ c = TO ∨ c = i1 ∨ c = i2 := by simpa using hc
  rcases e' with q | q | q | q | q
  · rw [q]; exact hzl
  · rw [q]; exact Heap.lt_size hTI
  · rw [q]; exact Heap.lt_size hTO
  · rw [q]; exact Heap.lt_size h1
  · rw [q]; exact Heap.lt_size h2
end
end L2
namespace PySem
open Sem (wp)
end PySem
namespace L2
open PySem PySem.Spec PyProof.Rows
end L2
namespace ZZ
open PySem PySem.Spec L2
end ZZ
set_option Elab.async false
set_option linter.all false
set_option maxRecDepth 100000
namespace ZZ
open PySem PySem.Spec L2 L2H
/-- + of lists, kept as a cell -/
def kAddC (v u : Val) : DE := fun _ ce => match asL ce v, asL ce u with
  | some xs, some ys => if xs.length + ys.length ≤ LINE then .ok (.cell ce.length) (ce ++ [.lst (xs ++ ys)]) else .stuck
  | _, _ => .stuck
section
variable {X : Cx} {Z : Zy} {W : WX} {p p2 pos : Pos} {e : Expr} {f : DE} {x : Str} {cv : V} {u : Value} {tst : Ty → Option Bool}
theorem ok_addC : Ok2 Z W kAddC rAddA := by
  intro A F sl ce v u x y H σ Q so hs rv ru p
  unfold kAddC at p
  split at p
  · rename_i xs ys e1 e2
    split at p
    · rename_i hl
      obtain ⟨l, vs, rfl, h1, h2⟩ := asL_rd so rv e1
      obtain ⟨l', vs', rfl, h1', h2'⟩ := asL_rd so ru e2
      exact .inr (.inr ⟨l, l', vs, vs', rfl, rfl, h1, h1', by rw [sizeLine_eq, ← h2.length, ← h2'.length]; exact hl, fun p' hp => fin_newC so p (h2.append h2') hp⟩)
    · exact p.elim
  · exact p.elim
end
end ZZ
set_option Elab.async false
set_option linter.all false
set_option maxRecDepth 100000
namespace ZZ
open PySem PySem.Spec L2 L2H PyProof.Rows
end ZZ
set_option Elab.async false
set_option linter.all false
set_option maxRecDepth 100000
namespace L2
open PySem PySem.Spec PyProof.Rows ZZ
theorem xoV_ok {P : Program} {w : World} {H : Hp} {h : Heap} {a C : Addr} {dx : Option Addr} {o : Obj} {vs : Array Value} (e : h.get? a = some o) (h1 : o.cls = .ref C) (h2 : o.dict = dx) (h3 : o.data = .fields vs) : ObjOk P w H h a (xoV a C dx) :=
  ⟨⟨o, vs, e, h1, h2, h3⟩, ⟨o, e⟩, fun _ _ ⟨o, v, q, r⟩ k => ⟨o, v, k o q, r⟩⟩
section
variable {X : Cx} {p pos : Pos} {x n : Str} {C : Addr} {e : Expr} {es : List Expr} {te : TE} {ta : TA}
/-- X(e) of an own exception class without own __init__ -/
theorem pe_excV1 (q : PySem.W.excIn X.K C [.type "ValueError", .type "Exception", .type "BaseException", .type "object"] "ValueError.__new__" = true) (gC : X.mg x = some (.ref C)) (kC : PySem.W.keepIn X.K (.ref C) = true) (hg : Gl X x)
    (he : PE X e te) (hs : starEach [e] X.env = (false, eval e X.env) :: starEach [] X.env := by rfl) (hdb : (x == ("__debug__" : Str)) = false := by decide) :
    PE X (.Call (.Name x p) [e] [] pos) (fun σ H Q => te σ H fun _ H1 => ∀ a, H1 a = none → Q (.ref a) (upd H1 a (xoV a C none))) := by
  refine ⟨fun pins s σ H Q I h => ?_⟩
  refine wpAny_Call_Name_kw (ld_glob I hg gC ?_ hdb)
  refine PySem.W.callWith_K (h₀ := X.base) I.ok.mod.kin kC ?_ hs (by rfl)
  rw [hs]
  show wpAny _ _ (spliced ((false, eval e X.env) :: backTo pos (starEach [] X.env))) _ _ s
  refine Calls.spliced_cons (thn (he.run pins s σ H _ I h) fun u s1 ⟨v, H1, I1, r1, q1⟩ => ?_)
  refine Calls.spliced_nil ⟨I1.kIn, ?_⟩
  show wpAny _ _ (call (.ref C) [u]) _ _ _
  obtain ⟨bm, N, nm, qn, bs, hdct, sn, sub, ab, col, dd, k0, k1, k2, k3, k5, mN, hC, hN, hni, T⟩ := exc_obj I1.kIn q
  refine wpAny_call_exc_subT PySem.F.excBase_ValueError T hC hN hni (fun h' a hm => ?_) (by show 1 ≤ sizeLine; rw [sizeLine_eq]; omega)
  have hn : H1 a = none := I1.hok.gone hm.new
  obtain ⟨t, ht, _, _⟩ := hm.there
  exact ⟨.ref a, upd H1 a (xoV a C none), I1.laidN hm.keeps hm.new hn (xoV_ok ht rfl rfl rfl), rfl, q1 a hn⟩
/-- X() -/
theorem pe_excV0 (q : PySem.W.excIn X.K C [.type "ValueError", .type "Exception", .type "BaseException", .type "object"] "ValueError.__new__" = true) (gC : X.mg x = some (.ref C)) (kC : PySem.W.keepIn X.K (.ref C) = true) (hg : Gl X x)
    (hdb : (x == ("__debug__" : Str)) = false := by decide) :
    PE X (.Call (.Name x p) [] [] pos) (fun σ H Q => ∀ a, H a = none → Q (.ref a) (upd H a (xoV a C none))) := by
  refine ⟨fun pins s σ H Q I h => ?_⟩
  refine wpAny_Call_Name_kw (ld_glob I hg gC ?_ hdb)
  refine PySem.W.callWith_K0 I.kIn kC ?_
  show wpAny _ _ (call (.ref C) []) _ _ _
  obtain ⟨bm, N, nm, qn, bs, hdct, sn, sub, ab, col, dd, k0, k1, k2, k3, k5, mN, hC, hN, hni, T⟩ := exc_obj I.kIn q
  refine wpAny_call_exc_subT PySem.F.excBase_ValueError T hC hN hni (fun h' a hm => ?_) (by show 0 ≤ sizeLine; omega)
  have hn : H a = none := I.hok.gone hm.new
  obtain ⟨t, ht, _, _⟩ := hm.there
  exact ⟨.ref a, upd H a (xoV a C none), I.laidN hm.keeps hm.new hn (xoV_ok ht rfl rfl rfl), rfl, h a hn⟩
/-- C(e, ..), C's own __init__ keeping sp: the object is kept -/
def tMkV (C : Addr) (sp : Sp) (dvs : List V) (ta : TA) : TE := fun σ H Q => ta σ H fun vs H1 => vs.length ≤ 1000 ∧ ∀ a, H1 a = none → sp (.ref a :: (vs ++ dvs)) (upd H1 a (exo a C none))
  (fun v H2 => v = .non ∧ ∃ (d : Addr) (fs : List (Str × V)), H2 a = some (exo a C (some d)) ∧ H2 d = some (exd d fs) ∧ d ≠ a ∧ Q (.ref a) (upd (upd H2 d (.xd fs)) a (xoV a C (some d)))) (fun _ _ _ => False)
theorem pe_oexV {CX : CXT} {fI : Addr} {k : Nat} {fd : FuncData} {ps : List Str} {sp : Sp} {ds : List Value} {dvs : List V} (T : OexC X.K C) (iC : PySem.W.findIn X.K (.ref C) "__init__" = some (some (.ref fI))) (tI : PySem.W.typeIn X.K (.ref fI) = some (.type "function"))
    (F1 : FnOk X.prog X.w X.K X.mg X.base CX k fI fd ps sp) (hr : Room (k + 1) X.A) (hb : Binds X.K fd ps ds) (hd : Vals dvs ds) (hx : Passes CX X (fun _ _ _ => False)) (hg : Gl X x) (hm : X.mg x = some (.ref C)) (ha : PA X (e :: es) ta)
    (hdb : (x == ("__debug__" : Str)) = false := by decide) (he : starEach (e :: es) X.env = (false, eval e X.env) :: starEach es X.env := by rfl) (hpl : (backTo pos (starEach es X.env)).any (·.1) = false := by rfl) :
    PE X (.Call (.Name x p) (e :: es) [] pos) (tMkV C sp dvs ta) := by
  refine ⟨fun pins s σ H Q I h => ?_⟩
  obtain ⟨nm, q, N, bs, bm, sn, sub, ab, col, dd, k0, k1, k2, k3, k5, hC, hbm⟩ := T.cls
  refine wpAny_Call_Name_kw (ld_glob I hg hm ?_ hdb)
  refine PySem.W.callWith_K (h₀ := X.base) I.ok.mod.kin T.kC (thn (ha.run pos pins s σ H _ I h) fun us s1 ⟨vs, H1, I1, r1, hz, q1⟩ => ⟨I1.kIn, ?_⟩) he hpl
  show wpAny _ _ (call (.ref C) us) _ _ _
  obtain ⟨hp, g, dr, tk, os⟩ := s1
  have hsz : hp.objs.size ≤ hp.objs.size + 1 := Nat.le_succ _
  have hn : H1 (hp.objs.size + 1) = none := I1.hok.fresh hsz
  have hq := q1 (hp.objs.size + 1) hn
  have kk : ∀ b o, hp.get? b = some o → ((hp.push (PySem.W.kdv_tup us)).push (PySem.HandSPX.excO C hp.objs.size)).get? b = some o := fun b o e => Heap.get?_push_of_some _ (Heap.get?_push_of_some _ e)
  have hget : ((hp.push (PySem.W.kdv_tup us)).push (PySem.HandSPX.excO C hp.objs.size)).get? (hp.objs.size + 1) = some (PySem.HandSPX.excO C hp.objs.size) := by heap_get
  have I2 : Inv X pins σ (upd H1 (hp.objs.size + 1) (exo (hp.objs.size + 1) C none)) ⟨(hp.push (PySem.W.kdv_tup us)).push (PySem.HandSPX.excO C hp.objs.size), g, dr, tk, os⟩ :=
    I1.laid (t' := tk) (a := hp.objs.size + 1) (o := exo (hp.objs.size + 1) C none) (h' := (hp.push (PySem.W.kdv_tup us)).push (PySem.HandSPX.excO C hp.objs.size)) kk hsz (exo_ok hget)
  have r2 : Vals (V.ref (hp.objs.size + 1) :: (vs ++ dvs)) (Value.ref (hp.objs.size + 1) :: (us ++ ds)) := .cons rfl (r1.append hd)
  have hl : (Value.ref (hp.objs.size + 1) :: us ++ ds).length = ps.length := by
    have e := r2.length
    rw [F1.len _ _ _ _ hq] at e
    exact e.symm
  have hus : us.length ≤ sizeLine := by
    rw [← Paired.length r1, sizeLine_eq]
    omega
  refine wpAny_call (PySem.HandSPX.call_own F.excBase_ValueError (fun Y => PySem.HandSPX.refsVE_contains Y bm hbm) (I1.kIn _ _ hC) (PySem.W.looks_findIn I1.kIn iC) (fun self => PySem.W.bind_fn I1.kIn self tI) hus
    (codeAny_mono (F1.run _ X.stack _ _ ⟨Value.ref (hp.objs.size + 1) :: us, []⟩ (Value.ref (hp.objs.size + 1) :: (us ++ ds)) _ _ (fun _ _ _ => False) (hr.make C us []) (I2.env0.make C us []) (hb _ (Value.ref (hp.objs.size + 1) :: us) I2.kIn hl) r2 hq) fun r s' hq' => ?_))
  cases r with
  | error er => exact hx pins σ _ _ er s' I2 hq'
  | ok fl =>
    cases fl with
    | ret u =>
      obtain ⟨v, H2, I3, rv, ev, d, fs, ea, ed, hda, q3⟩ := I2.after hq'
      subst ev
      refine ⟨rv, ?_⟩
      obtain ⟨t1, ho⟩ := exo_at I3.hok ea
      obtain ⟨mA, hns, rel⟩ := exd_at I3.hok ed
      obtain ⟨od, es0, ep0, hod, _⟩ := hns
      have J1 := I3.write (t' := s'.toks) (x := d) (e := d) (o := .xd fs) (by rw [ed]; exact True.intro) (.inl rfl) (fun b u _ z => z) ⟨od, hod⟩ (by
        obtain ⟨mA, hns, rel⟩ := exd_at I3.hok ed
        exact ⟨mA, hns, rel⟩)
      have J2 := J1.write (t' := s'.toks) (x := hp.objs.size + 1) (e := hp.objs.size + 1) (o := xoV (hp.objs.size + 1) C (some d)) (by rw [upd_ne (Ne.symm hda), ea]; exact True.intro) (.inl rfl) (fun b u _ z => z) ⟨_, ho⟩ (xoV_ok ho rfl rfl rfl)
      exact ⟨V.ref (hp.objs.size + 1), _, J2, rfl, q3⟩
    | next => exact False.elim hq'
    | brk => exact False.elim hq'
    | cont => exact False.elim hq'
/-- isinstance of an exception that was made -/
theorem call_isV : CallR X (.builtin "isinstance") (fun xs H Q => ∃ (a C : Addr) (dx : Option Addr) (c : V) (cv : Value) (b : Bool), xs = [.ref a, c] ∧ XiC X.K C ∧ (∀ u, RelV c u → u = cv) ∧ PySem.W.kitOne X.K (.ref C) cv = some b ∧
    H a = some (xoV a C dx) ∧ (dx = none ∨ ∃ dd fs, dx = some dd ∧ H dd = some (.xd fs)) ∧ Q (.bl b) H) := by
  intro pins s σ H xs us Q I r h
  obtain ⟨a, C, d, c, cv, b, rfl, xi, hcv, e, hH, hdd, q⟩ := h
  cases r with
  | cons rx rr =>
    cases rr with
    | cons rt rr =>
      cases rr
      cases rx
      have ec := hcv _ rt
      subst ec
      obtain ⟨⟨oe, vs, hget, z1, z2, hv⟩, _, _⟩ : ObjOk X.prog X.w H s.heap a (xoV a C d) := I.hok a _ hH
      have hcl : (PySem.W.clsIn X.K C).isSome = true := by
        obtain ⟨cd, hc, _⟩ := PySem.W.any_some xi.hd
        rw [hc]
        rfl
      have key : ∀ od, PySem.W.InstAt s.heap a oe C od → wpAny (model X.prog X.w) X.A (call (.builtin "isinstance") [.ref a, _]) (EP X pins σ Q) X.xe s := fun od J =>
        PySem.W.kia_one (PySem.W.kitx_exc (od := od) hcl xi.hga xi.hgt xi.hsub xi.ha xi.hn xi.htk xi.hm) I.kIn J e (fun z => nomatch z) fun tk => ⟨.bl b, H, I.kept (t' := tk) fun _ _ z => z, rfl, q⟩
      rcases hdd with rfl | ⟨dd, fs, rfl, hH9⟩
      · refine key none ?_
        refine ⟨hget, z1, by unfold PySem.W.notCls; rw [hv] <;> rfl, by rw [z2]; trivial⟩
      · obtain ⟨mA, hns, hr⟩ : ObjOk X.prog X.w H s.heap dd (.xd fs) := I.hok dd _ hH9
        obtain ⟨od, ho, hl⟩ := lookIn_ns hns
        exact key (some od) ⟨hget, z1, by unfold PySem.W.notCls; rw [hv] <;> rfl, by rw [z2]; exact ho⟩
/-- e.n, e an exception that was made -/
def tXfV (K : PySem.W.Frag) (n : Str) (te : TE) : TE := fun σ H Q => te σ H fun x H1 => ∃ (a C dd : Addr) (fs : List (Str × V)) (v : V), x = .ref a ∧ XfC K C ∧ PySem.W.findIn K (.ref C) n = some none ∧ H1 a = some (xoV a C (some dd)) ∧ H1 dd = some (.xd fs) ∧ fs.lookup n = some v ∧ Q v H1
theorem pe_xfV (he : PE X e te) (hb : attributeBase e n X.env (eval e X.env) = eval e X.env := by rfl) : PE X (.Attribute e n pos) (tXfV X.K n te) := by
  refine ⟨fun pins s σ H Q I h => ?_⟩
  refine attr_of hb (thn (he.run pins s σ H _ I h) fun u s1 hh => ?_)
  obtain ⟨x, H1, I1, rx, a, C, dd, fs, v, ex, T, hno, hH, ea, l, q⟩ := hh
  subst ex
  obtain rfl : u = Value.ref a := rx
  obtain ⟨⟨oe, vs, ha, z1, z2, hd⟩, _, _⟩ : ObjOk X.prog X.w H1 s1.heap a (xoV a C (some dd)) := I1.hok a _ hH
  have hx : ObjOk X.prog X.w H1 s1.heap dd (.xd fs) := I1.hok dd _ ea
  obtain ⟨mA, hns, hr⟩ := hx
  obtain ⟨od, ho, hl⟩ := lookIn_ns hns
  obtain ⟨u, hu, ru⟩ := RelO.some_of (v := v) (o := mA n) (by rw [← l]; exact hr n)
  have J : PySem.W.InstAt s1.heap a oe C (some od) := ⟨ha, z1, by unfold PySem.W.notCls; rw [hd] <;> rfl, by rw [z2]; exact ho⟩
  exact HandSPX.exc_get I1.kIn J T.ga T.gg T.exC (PySem.W.findObj_own T.hdC hno rfl (by rw [hl, hu])) (handed_of ru) ⟨v, H1, I1.tok _, ru, q⟩
end
end L2
namespace ZZ
open PySem PySem.Spec L2
/-- C(e), C() of a class without fields -/
def kXb (c : Nat) (_ : Val) : DE := fun _ ce => .ok (.exn (1000 + c) []) ce
def eXb (c : Nat) : DE := fun _ ce => .ok (.exn (1000 + c) []) ce
/-- C(e, ..) of a class with fields -/
def kXm (c : Nat) (vs : List Val) : DE := fun _ ce => match ims vs with
  | some ds => .ok (.exn (1000 + c) ds.reverse) ce
  | none => .stuck
/-- isinstance, a field -/
def kIsV (nE : Nat) (tst : Nat → Bool) (v : Val) : DE := fun _ ce => match v with
  | .exn c _ => if 1000 ≤ c ∧ c - 1000 < nE then .ok (.im (.bl (tst (c - 1000)))) ce else .stuck
  | _ => .stuck
def kXfV (cs : List Nat) (i : Nat) (v : Val) : DE := fun _ ce => match v with
  | .exn c ds => if 1000 ≤ c ∧ c - 1000 ∈ cs then (match ds[i]? with
    | some y => .ok (.im y) ce
    | none => .stuck) else .stuck
  | _ => .stuck
theorem upd_swapV {H : Hp} {a dx : Addr} {o o1 o2 o3 o4 : HO} (h2 : dx ≠ a) : upd (upd (upd (upd (upd H a o) dx o1) a o2) dx o3) a o4 = upd (upd H dx o3) a o4 := by
  funext b
  unfold upd
  by_cases hb : b = a
  · simp [hb]
  · by_cases hd : b = dx
    · simp [hb, hd, h2]
    · simp [hb, hd]
theorem upd_swapV2 {H : Hp} {a dx : Addr} {o o1 o2 o3 o4 o5 : HO} (h2 : dx ≠ a) : upd (upd (upd (upd (upd (upd H a o) dx o1) a o2) dx o5) dx o3) a o4 = upd (upd H dx o3) a o4 := by
  funext b
  unfold upd
  by_cases hb : b = a
  · simp [hb]
  · by_cases hd : b = dx
    · simp [hb, hd, h2]
    · simp [hb, hd]
section
variable {X : Cx} {Z : Zy} {W : WX} {p pos : Pos} {x n : Str} {c : Nat} {e e2 T : Expr} {f g : DE}
theorem madeV {A : List Addr} {F H : Hp} {ce : List Cell} {σ : L2.St} {Q : VK} {a d : Addr} {fs : List (Str × V)} {ds : List D} (so : SO Z.toZx A F ce H) (ha : H a = none) (hd : H d = none) (hda : d ≠ a) (h1 : fs.map (·.1) = Z.fl c) (h2 : Reps Z.toZx F ds (fs.map (·.2)))
    (p : PostE Z A F W σ Q (.ok (.exn (1000 + c) ds) ce)) : Q (.ref a) (upd (upd H d (.xd fs)) a (xoV a (Z.cl c) (some d))) := by
  have s1 := so.new (o := .xd fs) hd
  have ha1 : upd H d (.xd fs) a = none := by rw [upd_ne (Ne.symm hda)]; exact ha
  have s2 := s1.new (o := xoV a (Z.cl c) (some d)) ha1
  have e1 : Same F (upd F d (.xd fs)) := same_up (so.fnone hd)
  have e2 : Same (upd F d (.xd fs)) (upd (upd F d (.xd fs)) a (xoV a (Z.cl c) (some d))) := same_up (s1.fnone ha1)
  refine p A _ _ _ (List.prefix_refl _) (e1.trans e2) s2 (.inr ⟨by omega, a, some d, rfl, ?_, ?_⟩)
  · rw [Nat.add_sub_cancel_left]
    exact upd_same
  · rw [Nat.add_sub_cancel_left]
    refine .inr ⟨d, fs, rfl, e2 _ _ upd_same, h1, h2.mono (e1.trans e2)⟩
theorem de_xb1 (T : ExT X.K (Z.cl c)) (hm : X.mg x = some (.ref (Z.cl c))) (he : PE X e (tE Z W f)) (hg : Gl X x := by rfl) (hs : starEach [e] X.env = (false, eval e X.env) :: starEach [] X.env := by rfl) (hdb : (x == ("__debug__" : Str)) = false := by decide) :
    PE X (.Call (.Name x p) [e] [] pos) (tE Z W (eUn (kXb c) f)) :=
  (pe_excV1 T.q hm T.kC hg he hs hdb).weak fun σ H Q q => tE_imp (fun y H1 ⟨A, F, sl, ce, v, so, hs, r, p⟩ => fun a ha => by
    unfold kXb at p
    refine p A (upd F a (xoV a (Z.cl c) none)) _ _ (List.prefix_refl _) (same_up (so.fnone ha)) (so.new ha) (.inr ⟨by omega, a, none, rfl, ?_, .inl ⟨rfl, rfl⟩⟩)
    rw [Nat.add_sub_cancel_left]
    exact upd_same) (tE1 q)
theorem de_xb0 (T : ExT X.K (Z.cl c)) (hm : X.mg x = some (.ref (Z.cl c))) (hg : Gl X x := by rfl) (hdb : (x == ("__debug__" : Str)) = false := by decide) : PE X (.Call (.Name x p) [] [] pos) (tE Z W (eXb c)) :=
  (pe_excV0 T.q hm T.kC hg hdb).weak fun σ H Q ⟨A, F, sl, ce, so, hs, p⟩ => fun a ha => by
    unfold eXb at p
    refine p A (upd F a (xoV a (Z.cl c) none)) _ _ (List.prefix_refl _) (same_up (so.fnone ha)) (so.new ha) (.inr ⟨by omega, a, none, rfl, ?_, .inl ⟨rfl, rfl⟩⟩)
    rw [Nat.add_sub_cancel_left]
    exact upd_same
theorem de_xm1 {fI : Addr} {ps : List Str} {nm : Str} (E1 : Ex1 X.prog X.w X.K X.mg X.base Z.toZx c nm fI ps) (hr : Room 2 X.A) (hm : X.mg x = some (.ref (Z.cl c))) (ha : PA X [e] (tArgs Z W [f]))
    (hg : Gl X x := by rfl) (hdb : (x == ("__debug__" : Str)) = false := by decide) (he : starEach [e] X.env = (false, eval e X.env) :: starEach [] X.env := by rfl) (hpl : (backTo pos (starEach [] X.env)).any (·.1) = false := by rfl) :
    PE X (.Call (.Name x p) [e] [] pos) (tE Z W (eArgs [f] (kXm c))) := by
  obtain ⟨fd, F1, b⟩ := E1.g.ex
  refine (pe_oexV E1.o E1.i E1.t F1 hr b .nil pass0 hg hm ha hdb he hpl).weak fun σ H Q h => tArgs_imp (fun xs H1 ⟨A, F, sl, ce, vs, so, hs, r, l, q⟩ => ?_) (tN h)
  have hl := r.length
  have hx : xs.length = 1 := by rw [← hl, l]; rfl
  refine ⟨by omega, fun a ha => ?_⟩
  obtain ⟨y, rfl⟩ := List.length_eq_one_iff.mp hx
  unfold kXm at q
  cases e2 : ims vs with
  | none => rw [e2] at q; exact q.elim
  | some ds =>
    rw [e2] at q
    have rd := ims_rd r e2
    refine ⟨a, Z.cl c, y, rfl, E1.o, E1.n, upd_same, fun dx h1 h2 => ⟨rfl, dx, [(nm, y)], upd_same, ?_, h2, ?_⟩⟩
    · rw [upd_ne h2, upd_same]
    · rw [upd_ne h2] at h1
      rw [upd_swapV h2]
      exact madeV (fs := [(nm, y)]) so ha h1 h2 (by rw [E1.f]; rfl) rd.reverse q
theorem de_xm2 {fI : Addr} {ps : List Str} {nm nm2 : Str} (E1 : Ex2 X.prog X.w X.K X.mg X.base Z.toZx c nm nm2 fI ps) (hr : Room 2 X.A) (hm : X.mg x = some (.ref (Z.cl c))) (ha : PA X [e, e2] (tArgs Z W [f, g]))
    (hg : Gl X x := by rfl) (hdb : (x == ("__debug__" : Str)) = false := by decide) (he : starEach [e, e2] X.env = (false, eval e X.env) :: starEach [e2] X.env := by rfl) (hpl : (backTo pos (starEach [e2] X.env)).any (·.1) = false := by rfl) :
    PE X (.Call (.Name x p) [e, e2] [] pos) (tE Z W (eArgs [f, g] (kXm c))) := by
  obtain ⟨fd, F1, b⟩ := E1.g.ex
  refine (pe_oexV E1.o E1.i E1.t F1 hr b .nil pass0 hg hm ha hdb he hpl).weak fun σ H Q h => tArgs_imp (fun xs H1 ⟨A, F, sl, ce, vs, so, hs, r, l, q⟩ => ?_) (tN h)
  have hl := r.length
  have hx : xs.length = 2 := by rw [← hl, l]; rfl
  refine ⟨by omega, fun a ha => ?_⟩
  obtain ⟨y, y2, rfl⟩ : ∃ y y2, xs = [y, y2] := by
    rcases xs with _ | ⟨y, _ | ⟨y2, _ | ⟨z, zs⟩⟩⟩ <;> first | exact ⟨_, _, rfl⟩ | (simp at hx)
  unfold kXm at q
  cases e2 : ims vs with
  | none => rw [e2] at q; exact q.elim
  | some ds =>
    rw [e2] at q
    have rd := ims_rd r e2
    refine ⟨a, Z.cl c, y, y2, rfl, E1.o, E1.n, E1.m, upd_same, fun dx h1 h2 => ⟨rfl, dx, [(nm2, y2), (nm, y)], ?_, upd_same, h2, ?_⟩⟩
    · rw [upd_ne (Ne.symm h2), upd_same]
    · rw [upd_ne h2] at h1
      rw [upd_swapV2 h2]
      exact madeV (fs := [(nm2, y2), (nm, y)]) so ha h1 h2 (by rw [E1.f]; rfl) rd.reverse q
theorem de_isV {nE : Nat} {tst : Nat → Bool} {cv : V} {u : Value} (xi : ∀ c, c < nE → XiC X.K (Z.cl c)) (hT : PE X T (tC cv)) (hcv : ∀ u', RelV cv u' → u' = u) (hk : ∀ c, c < nE → PySem.W.kitOne X.K (.ref (Z.cl c)) u = some (tst c)) (he : PE X e (tE Z W f)) (hm : X.mg "isinstance" = none)
    (hg : Gl X "isinstance" := by rfl) (hs : starEach [e, T] X.env = (false, eval e X.env) :: starEach [T] X.env := by rfl) (hs2 : starEach [T] X.env = (false, eval T X.env) :: starEach [] X.env := by rfl) (hpl : (backTo pos (starEach [T] X.env)).any (·.1) = false := by rfl) :
    PE X (.Call (.Name "isinstance" p) [e, T] [] pos) (tE Z W (eUn (kIsV nE tst) f)) :=
  (pe_callB call_isV hg hm (by decide +kernel) (pa_cons he (pa_cons hT pa_nil hs2) hs) (by decide) (by decide) hs hpl).weak fun σ H Q q => tE_imp (fun x H1 ⟨A, F, sl, ce, v, so, hs, r, p⟩ => by
    unfold kIsV at p
    split at p
    · rename_i c' ds
      split at p
      · rename_i hc
        rcases r with ⟨hlt, _⟩ | ⟨_, a, dx, rfl, hF, xo⟩
        · omega
        refine ⟨a, _, dx, cv, u, _, rfl, xi _ hc.2, hcv, hk _ hc.2, so.sub _ _ hF, ?_, fin_flat so p repB⟩
        rcases xo with ⟨_, rfl⟩ | ⟨dd, fs, rfl, h2, _⟩
        · exact .inl rfl
        · exact .inr ⟨dd, fs, rfl, so.sub _ _ h2⟩
      · exact p.elim
    · exact p.elim) (tE1 q)
theorem de_xfV {i : Nat} {cs : List Nat} {nm : Str} (hT : ∀ c ∈ cs, XfC X.K (Z.cl c) ∧ PySem.W.findIn X.K (.ref (Z.cl c)) nm = some none ∧ (Z.fl c)[i]? = some nm ∧ (Z.fl c).Nodup) (he : PE X e (tE Z W f)) (hb : attributeBase e nm X.env (eval e X.env) = eval e X.env := by rfl) :
    PE X (.Attribute e nm pos) (tE Z W (eUn (kXfV cs i) f)) :=
  (pe_xfV he hb).weak fun σ H Q q => tE_imp (fun x H1 ⟨A, F, sl, ce, v, so, hs, r, p⟩ => by
    unfold kXfV at p
    split at p
    · rename_i c' ds
      split at p
      · rename_i hc
        rcases r with ⟨hlt, _⟩ | ⟨_, a, dx, rfl, hF, xo⟩
        · omega
        obtain ⟨T, no, hi, nd⟩ := hT _ hc.2
        split at p
        · rename_i y hy
          rcases xo with ⟨rfl, _⟩ | ⟨dd, fs, rfl, h2, h3, h4⟩
          · simp at hy
          · obtain ⟨u, h5, h6⟩ := lookup_ix (n := (Z.fl (c' - 1000)).length) nd (by rw [h3, List.take_length]) h4 hi hy
            exact ⟨a, _, dd, fs, u, rfl, T, no, so.sub _ _ hF, so.sub _ _ h2, h5, fin_flat so p h6⟩
        · exact p.elim
      · exact p.elim
    · exact p.elim) (tE1 q)
end
end ZZ
set_option Elab.async false
set_option linter.all false
set_option maxRecDepth 100000
namespace ZZ
open PySem PySem.Spec L2
def st (l : List Nat) : Str := ⟨l.toArray⟩
theorem eq_int {i j : Int} {neg : Bool} {sl : Sl} {ce : List Cell} : kEqG neg (.im (.int i)) (.im (.int j)) sl ce = .ok (.im (.bl (if neg then !decide (i = j) else decide (i = j)))) ce := by
  unfold kEqG
  simp only [asIm, pyEq, toPy]
  rw [if_pos ⟨rfl, rfl⟩]
  simp only [PyData.eqv]
  have : (i == j) = decide (i = j) := by rw [Bool.eq_iff_iff]; simp
  rw [this]
theorem ce_get (ce l : List Cell) (k : Nat) : (ce ++ l)[ce.length + k]? = l[k]? := by
  rw [List.getElem?_append_right (by omega)]
  congr 1
  omega
theorem ce_get0 (ce l : List Cell) : (ce ++ l)[ce.length]? = l[0]? := ce_get ce l 0
theorem ce_set (ce l : List Cell) (k : Nat) (c : Cell) : (ce ++ l).set (ce.length + k) c = ce ++ l.set k c := by
  rw [List.set_append_right _ _ (by omega)]
  congr 2
  omega
theorem ce_set0 (ce l : List Cell) (c : Cell) : (ce ++ l).set ce.length c = ce ++ l.set 0 c := ce_set ce l 0 c
theorem ce_take (ce l : List Cell) : (ce ++ l).take ce.length = ce := by simp
end ZZ
set_option Elab.async false
set_option linter.all false
set_option maxRecDepth 100000
namespace ZZ
open PySem PySem.Spec L2
inductive Sg where
  | l | e | g
  deriving DecidableEq
def Sg.code : Sg → Nat
  | .l => 60 | .e => 61 | .g => 62
def txt (s : List Sg) : Str := st (s.map Sg.code)
theorem txt_l : txt [.l] = ("<" : Str) := by decide +kernel
theorem txt_e : txt [.e] = ("=" : Str) := by decide +kernel
def lefts (s : List Sg) : Nat := s.length - s.count .g
def rights (s : List Sg) : Nat := s.length - s.count .l
theorem cnt_le (s : List Sg) (c : Sg) : s.count c ≤ s.length := List.count_le_length
theorem lefts_cons (c : Sg) (s : List Sg) : lefts (c :: s) = lefts s + (if c = .g then 0 else 1) := by
  have := cnt_le s .g
  unfold lefts
  rw [List.count_cons, List.length_cons]
  cases c <;> simp <;> omega
theorem rights_cons (c : Sg) (s : List Sg) : rights (c :: s) = rights s + (if c = .l then 0 else 1) := by
  have := cnt_le s .l
  unfold rights
  rw [List.count_cons, List.length_cons]
  cases c <;> simp <;> omega
def hts : Nat → List Sg → List (Nat × Nat)
  | _, [] => []
  | r, .l :: s => (r, r) :: hts r s
  | r, .e :: s => (r, r + 1) :: hts (r + 1) s
  | r, .g :: s => hts (r + 1) s
def fh : Nat → List (Nat × Nat) → Nat → List Sg
  | r, [], R => List.replicate (R - r) .g
  | r, (a, b) :: ps, R => List.replicate (a - r) .g ++ (if a = b then Sg.l else Sg.e) :: fh b ps R
def Okh : Nat → List (Nat × Nat) → Nat → Prop
  | r, [], R => r ≤ R
  | r, (a, b) :: ps, R => r ≤ a ∧ a ≤ b ∧ b ≤ a + 1 ∧ Okh b ps R
theorem hts_len : ∀ (r : Nat) (s : List Sg), (hts r s).length = lefts s
  | _, [] => rfl
  | r, .l :: s => by rw [hts, List.length_cons, hts_len, lefts_cons]; rfl
  | r, .e :: s => by rw [hts, List.length_cons, hts_len, lefts_cons]; rfl
  | r, .g :: s => by rw [hts, hts_len, lefts_cons]; rfl
theorem okh_mono : ∀ {r r' : Nat} {ps : List (Nat × Nat)} {R : Nat}, r' ≤ r → Okh r ps R → Okh r' ps R
  | r, r', [], R, h, k => Nat.le_trans h k
  | r, r', (a, b) :: ps, R, h, k => ⟨Nat.le_trans h k.1, k.2⟩
theorem hts_ok : ∀ (r : Nat) (s : List Sg), Okh r (hts r s) (r + rights s)
  | r, [] => Nat.le_add_right _ _
  | r, .l :: s => ⟨Nat.le_refl _, Nat.le_refl _, Nat.le_succ _, by rw [rights_cons]; exact hts_ok r s⟩
  | r, .e :: s => ⟨Nat.le_refl _, Nat.le_succ _, Nat.le_refl _, by
      have := hts_ok (r + 1) s
      have e : r + rights (.e :: s) = r + 1 + rights s := by rw [rights_cons]; simp; omega
      rw [e]
      exact this⟩
  | r, .g :: s => by
    rw [rights_cons]
    have := hts_ok (r + 1) s
    rw [show r + 1 + rights s = r + (rights s + 1) by omega] at this
    exact okh_mono (Nat.le_succ _) this
theorem fh_g {r : Nat} {ps : List (Nat × Nat)} {R : Nat} (h : Okh (r + 1) ps R) : fh r ps R = .g :: fh (r + 1) ps R := by
  cases ps with
  | nil =>
    have : r + 1 ≤ R := h
    rw [fh, fh, show R - r = (R - (r + 1)) + 1 by omega, List.replicate_succ]
  | cons p ps =>
    obtain ⟨a, b⟩ := p
    have : r + 1 ≤ a := h.1
    rw [fh, fh, show a - r = (a - (r + 1)) + 1 by omega, List.replicate_succ]
    rfl
theorem fh_hts : ∀ (r : Nat) (s : List Sg), fh r (hts r s) (r + rights s) = s
  | r, [] => by simp [hts, fh, rights]
  | r, .l :: s => by
    rw [hts, fh, rights_cons]
    simp [fh_hts r s]
  | r, .e :: s => by
    rw [hts, fh, rights_cons]
    have := fh_hts (r + 1) s
    rw [show r + 1 + rights s = r + (rights s + 1) by omega] at this
    simp [this]
  | r, .g :: s => by
    have h := hts_ok (r + 1) s
    have := fh_hts (r + 1) s
    rw [hts, rights_cons]
    rw [show r + 1 + rights s = r + (rights s + 1) by omega] at h this
    show fh r (hts (r + 1) s) (r + (rights s + 1)) = _
    rw [fh_g h, this]
def H (s : List Sg) : List (Nat × Nat) := hts 0 s
/-- of the shape L, R -/
def In (L R : Nat) (s : List Sg) : Prop := lefts s = L ∧ rights s = R
section
variable {L R : Nat} {a b c : List Sg}
theorem In.ok (h : In L R a) : Okh 0 (H a) R := by
  have := hts_ok 0 a
  rwa [h.2, Nat.zero_add] at this
theorem In.len (h : In L R a) : (H a).length = L := by rw [H, hts_len, h.1]
theorem In.inj (ha : In L R a) (hb : In L R b) (h : H a = H b) : a = b := by
  have h1 := fh_hts 0 a
  have h2 := fh_hts 0 b
  unfold H at h
  rw [← h1, ← h2, h, ha.2, hb.2]
end
end ZZ
set_option Elab.async false
set_option linter.all false
set_option maxRecDepth 100000
namespace ZZ
open PySem PySem.Spec L2
mutual
/-- strings in order, no instance, at most n deep -/
def okD : Nat → D → Bool
  | _, .non => true
  | _, .bl _ => true
  | _, .int _ => true
  | _, .str s => PyData.strOk s
  | 0, .tup _ => false
  | 0, .lst _ => false
  | 0, .wl _ => false
  | n + 1, .tup ds => okDs n ds
  | n + 1, .lst ds => okDs n ds
  | n + 1, .wl ds => okDs n ds
  | _, .ins _ _ => false
  | _, .dct _ _ => false
def okDs : Nat → List D → Bool
  | _, [] => true
  | n, d :: ds => okD n d && okDs n ds
end
mutual
/-- == on values without instances -/
def eqD : D → D → Bool
  | .non, .non => true
  | .bl a, .bl b => a == b
  | .bl a, .int j => (if a then 1 else 0) == j
  | .int i, .bl b => i == (if b then 1 else 0)
  | .int i, .int j => i == j
  | .str x, .str y => x == y
  | .lst xs, .lst ys => eqDs xs ys
  | .lst xs, .wl ys => eqDs xs ys
  | .wl xs, .lst ys => eqDs xs ys
  | .wl xs, .wl ys => eqDs xs ys
  | .tup xs, .tup ys => eqDs xs ys
  | _, _ => false
def eqDs : List D → List D → Bool
  | [], [] => true
  | x :: xs, y :: ys => eqD x y && eqDs xs ys
  | _, _ => false
end
mutual
theorem okD_py : ∀ (n : Nat) (d : D), okD n d = true → ∃ p, toPy d = some p ∧ p.canLay0 = true ∧ p.depth ≤ n + 1
  | _, .non, _ => ⟨.none, rfl, rfl, by simp [PyData.depth]⟩
  | _, .bl b, _ => ⟨.bool b, rfl, rfl, by simp [PyData.depth]⟩
  | _, .int b, _ => ⟨.int b, rfl, rfl, by simp [PyData.depth]⟩
  | _, .str b, h => ⟨.str b, rfl, by rw [PyData.canLay0]; simpa [okD] using h, by simp [PyData.depth]⟩
  | 0, .tup _, h => by simp [okD] at h
  | 0, .lst _, h => by simp [okD] at h
  | 0, .wl _, h => by simp [okD] at h
  | n + 1, .tup ds, h => by
    obtain ⟨ps, h1, h2, h3⟩ := okDs_py n ds (by simpa [okD] using h)
    exact ⟨.tuple ps, by rw [toPy, h1]; rfl, by rw [PyData.canLay0]; exact h2, by rw [PyData.depth]; omega⟩
  | n + 1, .lst ds, h => by
    obtain ⟨ps, h1, h2, h3⟩ := okDs_py n ds (by simpa [okD] using h)
    exact ⟨.list ps, by rw [toPy, h1]; rfl, by rw [PyData.canLay0]; exact h2, by rw [PyData.depth]; omega⟩
  | n + 1, .wl ds, h => by
    obtain ⟨ps, h1, h2, h3⟩ := okDs_py n ds (by simpa [okD] using h)
    exact ⟨.list ps, by rw [toPy, h1]; rfl, by rw [PyData.canLay0]; exact h2, by rw [PyData.depth]; omega⟩
  | 0, .ins _ _, h => by simp [okD] at h
  | _ + 1, .ins _ _, h => by simp [okD] at h
  | 0, .dct _ _, h => by simp [okD] at h
  | _ + 1, .dct _ _, h => by simp [okD] at h
theorem okDs_py : ∀ (n : Nat) (ds : List D), okDs n ds = true → ∃ ps, toPys ds = some ps ∧ PyData.canLayAll0 ps = true ∧ PyData.depthAll ps ≤ n + 1
  | _, [], _ => ⟨[], rfl, rfl, by simp [PyData.depthAll]⟩
  | n, d :: ds, h => by
    have h' : okD n d = true ∧ okDs n ds = true := by simpa [okDs] using h
    obtain ⟨p, a1, a2, a3⟩ := okD_py n d h'.1
    obtain ⟨ps, b1, b2, b3⟩ := okDs_py n ds h'.2
    refine ⟨p :: ps, by rw [toPys, a1, b1], by rw [PyData.canLayAll0, a2, b2]; rfl, by rw [PyData.depthAll]; omega⟩
end
mutual
theorem eqv_eqD : ∀ (d e : D) (p q : PyData), toPy d = some p → toPy e = some q → PyData.eqv p q = eqD d e
  | .non, e, p, q, hp, hq => by
    cases hp
    cases e <;> simp only [toPy, Option.map_eq_some_iff, Option.some.injEq, reduceCtorEq] at hq <;> first | (cases hq; rfl) | (obtain ⟨_, _, rfl⟩ := hq; rfl) | (subst hq; rfl)
  | .bl b, e, p, q, hp, hq => by
    cases hp
    cases e <;> simp only [toPy, Option.map_eq_some_iff, Option.some.injEq, reduceCtorEq] at hq <;> first | (cases hq; rfl) | (obtain ⟨_, _, rfl⟩ := hq; rfl) | (subst hq; rfl)
  | .int b, e, p, q, hp, hq => by
    cases hp
    cases e <;> simp only [toPy, Option.map_eq_some_iff, Option.some.injEq, reduceCtorEq] at hq <;> first | (cases hq; rfl) | (obtain ⟨_, _, rfl⟩ := hq; rfl) | (subst hq; rfl)
  | .str b, e, p, q, hp, hq => by
    cases hp
    cases e <;> simp only [toPy, Option.map_eq_some_iff, Option.some.injEq, reduceCtorEq] at hq <;> first | (cases hq; rfl) | (obtain ⟨_, _, rfl⟩ := hq; rfl) | (subst hq; rfl)
  | .ins _ _, e, p, q, hp, hq => by simp [toPy] at hp
  | .tup xs, e, p, q, hp, hq => by
    simp only [toPy, Option.map_eq_some_iff] at hp
    obtain ⟨ps, hps, rfl⟩ := hp
    cases e <;> simp only [toPy, Option.map_eq_some_iff, Option.some.injEq, reduceCtorEq] at hq
    case tup ys =>
      obtain ⟨qs, hqs, rfl⟩ := hq
      rw [PyData.eqv, eqD]
      exact eqvs_eqDs xs ys ps qs hps hqs
    all_goals first | (cases hq; rfl) | (obtain ⟨_, _, rfl⟩ := hq; rfl) | (subst hq; rfl)
  | .lst xs, e, p, q, hp, hq => by
    simp only [toPy, Option.map_eq_some_iff] at hp
    obtain ⟨ps, hps, rfl⟩ := hp
    cases e <;> simp only [toPy, Option.map_eq_some_iff, Option.some.injEq, reduceCtorEq] at hq
    case lst ys =>
      obtain ⟨qs, hqs, rfl⟩ := hq
      rw [PyData.eqv, eqD]
      exact eqvs_eqDs xs ys ps qs hps hqs
    case wl ys =>
      obtain ⟨qs, hqs, rfl⟩ := hq
      rw [PyData.eqv, eqD]
      exact eqvs_eqDs xs ys ps qs hps hqs
    all_goals first | (cases hq; rfl) | (obtain ⟨_, _, rfl⟩ := hq; rfl) | (subst hq; rfl)
  | .wl xs, e, p, q, hp, hq => by
    simp only [toPy, Option.map_eq_some_iff] at hp
    obtain ⟨ps, hps, rfl⟩ := hp
    cases e <;> simp only [toPy, Option.map_eq_some_iff, Option.some.injEq, reduceCtorEq] at hq
    case lst ys =>
      obtain ⟨qs, hqs, rfl⟩ := hq
      rw [PyData.eqv, eqD]
      exact eqvs_eqDs xs ys ps qs hps hqs
    case wl ys =>
      obtain ⟨qs, hqs, rfl⟩ := hq
      rw [PyData.eqv, eqD]
      exact eqvs_eqDs xs ys ps qs hps hqs
    all_goals first | (cases hq; rfl) | (obtain ⟨_, _, rfl⟩ := hq; rfl) | (subst hq; rfl)
theorem eqvs_eqDs : ∀ (ds es : List D) (ps qs : List PyData), toPys ds = some ps → toPys es = some qs → PyData.eqvAll ps qs = eqDs ds es
  | [], [], ps, qs, hp, hq => by cases hp; cases hq; rfl
  | [], e :: es, ps, qs, hp, hq => by
    cases hp
    rw [toPys] at hq
    split at hq
    · cases hq; rfl
    · cases hq
  | d :: ds, [], ps, qs, hp, hq => by
    cases hq
    rw [toPys] at hp
    split at hp
    · cases hp; rfl
    · cases hp
  | d :: ds, e :: es, ps, qs, hp, hq => by
    rw [toPys] at hp hq
    split at hp
    · rename_i p ps' h1 h2
      cases hp
      split at hq
      · rename_i q qs' h3 h4
        cases hq
        rw [PyData.eqvAll, eqDs, eqv_eqD d e p q h1 h3, eqvs_eqDs ds es ps' qs' h2 h4]
      · cases hq
    · cases hp
end
theorem pyEq_ok {d e : D} (hd : okD 60 d = true) (he : okD 60 e = true) : pyEq d e = some (eqD d e) := by
  obtain ⟨p, a1, a2, a3⟩ := okD_py 60 d hd
  obtain ⟨q, b1, b2, b3⟩ := okD_py 60 e he
  unfold pyEq
  simp only [a1, b1]
  have sh : ∀ r : PyData, r.canLay0 = true → r.depth ≤ 60 + 1 → SeqAt.shaped r = true := fun r h1 h2 => by
    unfold SeqAt.shaped
    rw [Bool.and_eq_true]
    exact ⟨h1, by rw [decide_eq_true_eq]; omega⟩
  rw [if_pos ⟨sh p a2 a3, sh q b2 b3⟩, eqv_eqD d e p q a1 b1]
theorem rng1 (n : Nat) (h : n < 2 ^ 60) : kRng1 [.im (.int (n : Int))] = some ((List.range n).map fun (i : Nat) => D.int (i : Int)) := by
  have hz : isz (n : Int) = true := isz_of (by omega)
  unfold kRng1
  simp only [hz, if_true, Int.toNat_natCast]
  unfold rangeD
  refine congrArg some (List.map_congr_left fun i _ => ?_)
  rw [Int.zero_add, Int.mul_one]
theorem set_same {ce : List Cell} {k : Nat} {c : Cell} (h : ce[k]? = some c) : ce.set k c = ce := by
  refine List.ext_getElem? fun j => ?_
  by_cases hj : k = j
  · subst hj
    rw [List.getElem?_set_self (List.getElem?_eq_some_iff.mp h).1, h]
  · rw [List.getElem?_set_ne hj]
theorem set_take {ce : List Cell} {k : Nat} {c : Cell} : (ce.set k c).take ce.length = ce.set k c := List.take_of_length_le (by simp)
/-- a comprehension whose items change nothing -/
theorem lcD_map {β : Type} {own : List Nat} {g : GD} {t f : DE} {sl : Sl} (ce : List Cell) (F φ : β → D) (p : β → Bool) : ∀ (bs : List β) (acc : List D), acc.length + bs.length < 16777216 →
    (∀ b ∈ bs, ∀ acc : List D, ∃ sl1, g (F b) (wipeD sl own) = some sl1 ∧ t sl1 (ce ++ [.lst acc]) = .ok (.im (.bl (p b))) (ce ++ [.lst acc]) ∧ (p b = true → f sl1 (ce ++ [.lst acc]) = .ok (.im (φ b)) (ce ++ [.lst acc]))) →
    lcD own g t f ce.length (bs.map F) sl (ce ++ [.lst acc]) = .ok (.cell ce.length) (ce ++ [.lst (acc ++ (bs.filter p).map φ)])
  | [], acc, hl, h => by rw [List.map_nil, lcD]; simp
  | d :: ds, acc, hl, h => by
    rw [List.length_cons] at hl
    obtain ⟨sl1, h1, h2, h3⟩ := h d (List.mem_cons_self ..) acc
    rw [List.map_cons, lcD]
    simp only [h1, h2]
    cases hp : p d with
    | true =>
      have ih := lcD_map ce F φ p ds (acc ++ [φ d]) (by rw [List.length_append, List.length_singleton]; omega) fun d hd => h d (List.mem_cons_of_mem _ hd)
      rw [if_pos rfl]
      simp only [h3 hp, ce_get0, List.getElem?_cons_zero, ce_set0, List.set_cons_zero]
      rw [if_pos (by show acc.length < 16777216; omega), ih, List.filter_cons_of_pos hp, List.map_cons, List.append_assoc, List.singleton_append]
    | false =>
      have ih := lcD_map ce F φ p ds acc (by omega) fun d hd => h d (List.mem_cons_of_mem _ hd)
      rw [if_neg (by decide), ih, List.filter_cons_of_neg (by simp [hp])]
theorem lc_filter {β : Type} {own : List Nat} {fi : DI} {g : GD} {t f : DE} {sl : Sl} {ce : List Cell} (bs : List β) (F φ : β → D) (p : β → Bool) (hi : fi sl ce = .ok (bs.map F) ce) (hl : bs.length < 16777216)
    (h : ∀ b ∈ bs, ∀ acc : List D, ∃ sl1, g (F b) (wipeD sl own) = some sl1 ∧ t sl1 (ce ++ [.lst acc]) = .ok (.im (.bl (p b))) (ce ++ [.lst acc]) ∧ (p b = true → f sl1 (ce ++ [.lst acc]) = .ok (.im (φ b)) (ce ++ [.lst acc]))) :
    eSettle (eLcC own fi g t f) sl ce = .ok (.im (.lst ((bs.filter p).map φ))) ce := by
  unfold eSettle eLcC
  simp only [hi]
  rw [lcD_map ce F φ p bs [] (by rw [List.length_nil]; omega) h]
  simp only [ce_get0, List.getElem?_cons_zero, List.nil_append, ce_set0, ce_take]
theorem eq_any {v u : Val} {d e : D} {neg : Bool} {sl : Sl} {ce : List Cell} (h1 : asIm ce v = some d) (h2 : asIm ce u = some e) (hd : okD 60 d = true) (he : okD 60 e = true) : kEqG neg v u sl ce = .ok (.im (.bl (if neg then !eqD d e else eqD d e))) ce := by
  unfold kEqG
  simp only [h1, h2, pyEq_ok hd he]
end ZZ
set_option Elab.async false
set_option linter.all false
set_option maxRecDepth 100000
set_option maxHeartbeats 4000000
namespace ZZ
open PySem PySem.Spec L2
theorem sl1 : ("<" : Str) = txt [.l] := txt_l.symm
theorem sl2 : ("=" : Str) = txt [.e] := txt_e.symm
theorem app_ok {ce : List Cell} {acc : List D} {d : D} {sl : Sl} (h : acc.length < LINE) : kAppend (.cell ce.length) [.im d] sl (ce ++ [.lst acc]) = .ok (.im .non) (ce ++ [.lst (acc ++ [d])]) := by
  unfold kAppend
  simp only [ce_get0, List.getElem?_cons_zero, h, if_true, ce_set0, List.set_cons_zero]
end ZZ
namespace ZZ
open PySem PySem.Spec L2
end ZZ
set_option Elab.async false
set_option linter.all false
set_option maxRecDepth 100000
set_option maxHeartbeats 4000000
namespace ZZ
open PySem PySem.Spec L2
def sh (k : Nat) (p : Nat × Nat) : Nat × Nat := (p.1 + k, p.2 + k)
/-- how a left and a right layer lie: -1 older, 0 one, 1 younger -/
def rel : List Sg → Nat → Nat → Int
  | [], _, _ => 0
  | .l :: _, 0, _ => -1
  | .l :: s, i + 1, j => rel s i j
  | .g :: _, _, 0 => 1
  | .g :: s, i, j + 1 => rel s i j
  | .e :: _, 0, 0 => 0
  | .e :: _, 0, _ + 1 => -1
  | .e :: _, _ + 1, 0 => 1
  | .e :: s, i + 1, j + 1 => rel s i j
end ZZ
set_option Elab.async false
set_option linter.all false
set_option maxRecDepth 100000
set_option maxHeartbeats 4000000
namespace ZZ
open PySem PySem.Spec L2
end ZZ
set_option Elab.async false
set_option linter.all false
set_option maxRecDepth 100000
set_option maxHeartbeats 4000000
namespace ZZ
open PySem PySem.Spec L2 L2H
noncomputable section
def flds : Nat → List Str
  | 1 => ["index"]
  | 2 => ["index"]
  | 3 => ["index"]
  | 4 => ["index"]
  | 5 => ["word"]
  | 6 => ["index"]
  | 10 => ["second", "first"]
  | 11 => ["number"]
  | 13 => ["index"]
  | _ => []
abbrev Zz (w : World) (K : PySem.W.Frag) (cl : Nat → Addr) : Zx := ⟨K, cl, flds, w⟩
abbrev e_BadCore : Nat := 0
abbrev e_BadLayer : Nat := 1
abbrev e_BadJoint : Nat := 2
abbrev e_NoLayer : Nat := 3
abbrev e_NoJoint : Nat := 4
abbrev e_BadText : Nat := 5
abbrev e_BadRecord : Nat := 6
abbrev e_Unlike : Nat := 7
abbrev e_NotFitting : Nat := 8
abbrev e_NoRecord : Nat := 9
abbrev e_Clash : Nat := 10
abbrev e_BadNumber : Nat := 11
abbrev e_NoContrary : Nat := 12
abbrev e_NoSaying : Nat := 13
def x_BadCore (c : Nat) : Bool := [true, true, true, false, false, false, false, false, false, false, false, false, false, false].getD c false
def x_BadJoint (c : Nat) : Bool := [false, false, true, false, false, false, false, false, false, false, false, false, false, false].getD c false
def x_BadLayer (c : Nat) : Bool := [false, true, false, false, false, false, false, false, false, false, false, false, false, false].getD c false
def x_BadNumber (c : Nat) : Bool := [false, false, false, false, false, false, false, false, false, false, false, true, false, false].getD c false
def x_BadRecord (c : Nat) : Bool := [false, false, false, false, false, false, true, false, false, false, false, false, false, false].getD c false
def x_BadText (c : Nat) : Bool := [false, false, false, false, false, true, false, false, false, false, false, false, false, false].getD c false
def x_Clash (c : Nat) : Bool := [false, false, false, false, false, false, false, false, false, false, true, false, false, false].getD c false
def x_NoContrary (c : Nat) : Bool := [false, false, false, false, false, false, false, false, false, false, false, false, true, false].getD c false
def x_NoJoint (c : Nat) : Bool := [false, false, false, false, true, false, false, false, false, false, false, false, false, false].getD c false
def x_NoLayer (c : Nat) : Bool := [false, false, false, true, false, false, false, false, false, false, false, false, false, false].getD c false
def x_NoRecord (c : Nat) : Bool := [false, false, false, false, false, false, false, false, false, true, true, false, false, false].getD c false
def x_NoSaying (c : Nat) : Bool := [false, false, false, false, false, false, false, false, false, false, false, false, false, true].getD c false
def x_NotFitting (c : Nat) : Bool := [false, false, false, false, false, false, false, false, true, false, false, false, false, false].getD c false
def x_SiltError (c : Nat) : Bool := [true, true, true, true, true, true, true, true, true, true, true, true, true, true].getD c false
def x_Unlike (c : Nat) : Bool := [false, false, false, false, false, false, false, true, false, false, false, false, false, false].getD c false
def x_ValueError (c : Nat) : Bool := [true, true, true, true, true, true, true, true, true, true, true, true, true, true].getD c false
def i_bool : Ty → Option Bool
  | .t "NoneType" => some false
  | .t "bool" => some true
  | .t "int" => some false
  | .t "str" => some false
  | .t "tuple" => some false
  | .t "list" => some false
  | _ => none
def i_int : Ty → Option Bool
  | .t "NoneType" => some false
  | .t "bool" => some true
  | .t "int" => some true
  | .t "str" => some false
  | .t "tuple" => some false
  | .t "list" => some false
  | _ => none
def b__law_mix : DSt :=
  (sSeq (sSet 2 (eBin kMod (eArgs [(eBin kAdd (eBin kMul (eBin kMul (eV 0) (eC (.int 97))) (eBin kAdd (eV 1) (eC (.int 1)))) (eBin kMul (eC (.int 31)) (eV 1)))] kInt) (eC (.int 1000003)))) (sRet (eBin kAdd (eV 2) (eBin kDiv (eBin kMul (eV 2) (eV 2)) (eC (.int 1013))))))
def f__law_mix : DF := mkD 3 b__law_mix
def lp__law_pool_0 : DSt :=
  (sIf (eAnd (eTru (eV 6)) (eBin kGt (eV 5) (eC (.int 0))))
    (sSeq (sDrop (eMth tyL kAppend (eV 2) [(eBin kMod (eArgs [(eV 5)] kInt) (eC (.int 1000003)))])) (sSet 5 (eBin kDiv (eV 5) (eC (.int 1000003)))))
    (sIf (eAnd (eNot (eTru (eV 6))) (eBin kLt (eV 7) (eC (.int 6))))
    (sDrop (eMth tyL kAppend (eV 2) [(eArgs [(eBin kIx (eV 0) (eV 4)), (eV 7)] (kCall f__law_mix))]))
    sNil))
def lp__law_pool_1 : DSt :=
  (sSeq (sSet 3 (eBin kMod (eArgs [(eBin kAdd (eV 3) (eBin kMul (eBin kIx (eV 0) (eV 4)) (eBin kAdd (eV 4) (eC (.int 1)))))] kInt) (eC (.int 1000003)))) (sSeq (sSet 5 (eArgs [(eBin kIx (eV 0) (eV 4))] kAbs)) (sSeq (sSet 6 (eBin kGe (eV 5) (eBin kPow (eC (.int 10)) (eC (.int 18))))) (sFor (iArgs [(eC (.int 60))] kRng1) (gN 7) lp__law_pool_0))))
def lp__law_pool_2 : DSt :=
  (sIf (eBin kLt (eArgs [(eV 2)] kLen) (eV 1))
    (sDrop (eMth tyL kAppend (eV 2) [(eArgs [(eV 3), (eArgs [(eV 2)] kLen)] (kCall f__law_mix))]))
    sNil)
def b__law_pool : DSt :=
  (sSeq (sSet 2 (eArgs [] kLstC)) (sSeq (sSet 3 (eC (.int 0))) (sSeq (sFor (iArgs [(eArgs [(eArgs [(eV 0)] kLen), (eC (.int 63))] kMin)] kRng1) (gN 4) lp__law_pool_1) (sSeq (sFor (iArgs [(eV 1)] kRng1) (gN 7) lp__law_pool_2) (sRet (eV 2))))))
def f__law_pool : DF := mkD 8 b__law_pool
def b__law_draw : DSt :=
  (sSeq (sIf (eBin kEq (eArgs [(eV 0)] kLen) (eC (.int 0)))
    (sRet (eC (.int 0)))
    sNil) (sRet (eBin kMod (eArgs [(eMth tyL kPopAt (eV 0) [(eC (.int 0))])] kInt) (eV 1))))
def f__law_draw : DF := mkD 2 b__law_draw
def lp__law_number_0 : DSt :=
  (sSet 2 (eBin kAdd (eBin kMul (eV 2) (eC (.int 1000003))) (eArgs [(eV 0), (eC (.int 1000003))] (kCall f__law_draw))))
def b__law_number : DSt :=
  (sSeq (sSet 1 (eArgs [(eV 0), (eC (.int 8))] (kCall f__law_draw))) (sSeq (sSet 2 (eArgs [(eV 0), (eC (.int 5))] (kCall f__law_draw))) (sSeq (sIf (eBin kEq (eV 1) (eC (.int 4)))
    (sFor (iArgs [(eC (.int 5))] kRng1) (gN 3) lp__law_number_0)
    sNil) (sRet (eBin kMod (eArgs [(eV 2)] kInt) (eBin kPow (eC (.int 10)) (eC (.int 30))))))))
def f__law_number : DF := mkD 4 b__law_number
def b__law_whole : DSt :=
  (sRet (eAnd (eUn (kIsi i_int) (eV 0)) (eNot (eUn (kIsi i_bool) (eV 0)))))
def f__law_whole : DF := mkD 1 b__law_whole
def el__law_kin_0 : DE :=
  (eV 2)
def b__law_kin : DSt :=
  (sSeq (sIf (eOr (eNot (eUn (kIsV 14 x_SiltError) (eV 0))) (eNot (eUn (kIsV 14 x_ValueError) (eV 0))))
    (sRet (eArgs [(eUn kNeg (eC (.int 1)))] kLst))
    sNil) (sSeq (sSet 1 (eArgs [(eUn (kIsV 14 x_BadCore) (eV 0)), (eUn (kIsV 14 x_BadLayer) (eV 0)), (eUn (kIsV 14 x_BadJoint) (eV 0))] kLstC)) (sSeq (sDrop (eMth tyL kAppend (eV 1) [(eUn (kIsV 14 x_NoLayer) (eV 0))])) (sSeq (sDrop (eMth tyL kAppend (eV 1) [(eUn (kIsV 14 x_NoJoint) (eV 0))])) (sSeq (sDrop (eMth tyL kAppend (eV 1) [(eUn (kIsV 14 x_BadText) (eV 0))])) (sSeq (sDrop (eMth tyL kAppend (eV 1) [(eUn (kIsV 14 x_BadRecord) (eV 0))])) (sSeq (sDrop (eMth tyL kAppend (eV 1) [(eUn (kIsV 14 x_Unlike) (eV 0))])) (sSeq (sDrop (eMth tyL kAppend (eV 1) [(eUn (kIsV 14 x_NotFitting) (eV 0))])) (sSeq (sDrop (eMth tyL kAppend (eV 1) [(eUn (kIsV 14 x_NoRecord) (eV 0))])) (sSeq (sDrop (eMth tyL kAppend (eV 1) [(eUn (kIsV 14 x_Clash) (eV 0))])) (sSeq (sDrop (eMth tyL kAppend (eV 1) [(eUn (kIsV 14 x_BadNumber) (eV 0))])) (sSeq (sDrop (eMth tyL kAppend (eV 1) [(eUn (kIsV 14 x_NoContrary) (eV 0))])) (sSeq (sDrop (eMth tyL kAppend (eV 1) [(eUn (kIsV 14 x_NoSaying) (eV 0))])) (sRet (eSettle (eLcC [2] (iArgs [(eC (.int 14))] kRng1) (gN 2) (eTru (eBin kIx (eV 1) (eV 2))) el__law_kin_0))))))))))))))))
def f__law_kin : DF := mkD 3 b__law_kin
def el__law_plain_0 : DE :=
  (eArgs [(eV 4)] kLst)
def b__law_plain : DSt :=
  (sSeq (sSet 2 (eArgs [(eArgs [(eUn (kXb e_BadCore) (eC (.str "x")))] (kCall f__law_kin)), (eArgs [(eArgs [(eV 0)] (kXm e_BadLayer))] (kCall f__law_kin)), (eArgs [(eArgs [(eV 0)] (kXm e_BadJoint))] (kCall f__law_kin))] kLstC)) (sSeq (sSet 2 (eBin kAddC (eV 2) (eArgs [(eArgs [(eArgs [(eV 0)] (kXm e_NoLayer))] (kCall f__law_kin)), (eArgs [(eArgs [(eV 0)] (kXm e_NoJoint))] (kCall f__law_kin))] kLst))) (sSeq (sSet 2 (eBin kAddC (eV 2) (eArgs [(eArgs [(eArgs [(eV 0)] (kXm e_BadText))] (kCall f__law_kin)), (eArgs [(eArgs [(eV 0)] (kXm e_BadRecord))] (kCall f__law_kin))] kLst))) (sSeq (sSet 2 (eBin kAddC (eV 2) (eArgs [(eArgs [(eUn (kXb e_Unlike) (eC (.str "x")))] (kCall f__law_kin)), (eArgs [(eUn (kXb e_NotFitting) (eC (.str "x")))] (kCall f__law_kin))] kLst))) (sSeq (sSet 2 (eBin kAddC (eV 2) (eArgs [(eArgs [(eUn (kXb e_NoRecord) (eC (.str "x")))] (kCall f__law_kin)), (eArgs [(eArgs [(eV 0), (eV 1)] (kXm e_Clash))] (kCall f__law_kin))] kLst))) (sSeq (sSet 2 (eBin kAddC (eV 2) (eArgs [(eArgs [(eArgs [(eV 0)] (kXm e_BadNumber))] (kCall f__law_kin)), (eArgs [(eUn (kXb e_NoContrary) (eC (.str "x")))] (kCall f__law_kin))] kLst))) (sSeq (sDrop (eMth tyL kAppend (eV 2) [(eArgs [(eArgs [(eV 0)] (kXm e_NoSaying))] (kCall f__law_kin))])) (sSeq (sSet 3 (eLcC [4] (iArgs [(eC (.int 14))] kRng1) (gN 4) (eC (.bl true)) el__law_plain_0)) (sSeq (sSetIx (eV 3) (eC (.int 1)) (eArgs [(eC (.int 0)), (eC (.int 1))] kLst)) (sSeq (sSetIx (eV 3) (eC (.int 2)) (eArgs [(eC (.int 0)), (eC (.int 2))] kLst)) (sSeq (sSetIx (eV 3) (eC (.int 10)) (eArgs [(eC (.int 9)), (eC (.int 10))] kLst)) (sRet (eBin kEq (eV 2) (eV 3))))))))))))))
def f__law_plain : DF := mkD 5 b__law_plain
def b__law_bare : DSt :=
  (sSeq (sSet 0 (eArgs [(eArgs [(eXb e_BadCore)] (kCall f__law_kin)), (eArgs [(eXb e_Unlike)] (kCall f__law_kin)), (eArgs [(eXb e_NotFitting)] (kCall f__law_kin))] kLst)) (sSeq (sSet 0 (eBin kAdd (eV 0) (eArgs [(eArgs [(eXb e_NoRecord)] (kCall f__law_kin)), (eArgs [(eXb e_NoContrary)] (kCall f__law_kin))] kLst))) (sRet (eBin kEq (eV 0) (eArgs [(eArgs [(eC (.int 0))] kLst), (eArgs [(eC (.int 7))] kLst), (eArgs [(eC (.int 8))] kLst), (eArgs [(eC (.int 9))] kLst), (eArgs [(eC (.int 12))] kLst)] kLst)))))
def f__law_bare : DF := mkD 1 b__law_bare
def lp__law_values_0 : DSt :=
  (sIf (eOr (eNot (eArgs [(eV 3)] (kCall f__law_whole))) (eBin kNe (eV 3) (eV 0)))
    (sRet (eC (.bl false)))
    sNil)
def b__law_values : DSt :=
  (sSeq (sSet 2 (eArgs [(eUn (kXfV [1, 2, 3, 4, 6, 13] 0) (eArgs [(eV 0)] (kXm e_BadLayer))), (eUn (kXfV [1, 2, 3, 4, 6, 13] 0) (eArgs [(eV 0)] (kXm e_BadJoint))), (eUn (kXfV [1, 2, 3, 4, 6, 13] 0) (eArgs [(eV 0)] (kXm e_NoLayer)))] kLst)) (sSeq (sSet 2 (eBin kAdd (eV 2) (eArgs [(eUn (kXfV [1, 2, 3, 4, 6, 13] 0) (eArgs [(eV 0)] (kXm e_NoJoint))), (eUn (kXfV [1, 2, 3, 4, 6, 13] 0) (eArgs [(eV 0)] (kXm e_BadRecord))), (eUn (kXfV [1, 2, 3, 4, 6, 13] 0) (eArgs [(eV 0)] (kXm e_NoSaying)))] kLst))) (sSeq (sSet 2 (eBin kAdd (eV 2) (eArgs [(eUn (kXfV [5] 0) (eArgs [(eV 0)] (kXm e_BadText))), (eUn (kXfV [11] 0) (eArgs [(eV 0)] (kXm e_BadNumber))), (eUn (kXfV [10] 1) (eArgs [(eV 0), (eV 1)] (kXm e_Clash)))] kLst))) (sSeq (sFor (iExp (eV 2) itL) (gN 3) lp__law_values_0) (sSeq (sSet 4 (eArgs [(eC .non), (eV 1)] (kXm e_Clash))) (sRet (eAnd (eBin (kIsN false) (eUn (kXfV [10] 1) (eV 4)) (eC .non)) (eAnd (eArgs [(eUn (kXfV [10] 0) (eV 4))] (kCall f__law_whole)) (eBin kEq (eUn (kXfV [10] 0) (eV 4)) (eV 1))))))))))
def f__law_values : DF := mkD 5 b__law_values
def b_law : DSt :=
  (sSeq (sSet 1 (eArgs [(eV 0), (eC (.int 40))] (kCall f__law_pool))) (sSeq (sSet 2 (eBin kAdd (eC (.int 1)) (eArgs [(eV 1)] (kCall f__law_number)))) (sSeq (sSet 3 (eBin kAdd (eC (.int 1)) (eArgs [(eV 1)] (kCall f__law_number)))) (sRet (eAnd (eArgs [(eV 2), (eV 3)] (kCall f__law_plain)) (eAnd (eArgs [] (kCall f__law_bare)) (eArgs [(eV 2), (eV 3)] (kCall f__law_values))))))))
def f_law : DF := mkD 4 b_law
end
end ZZ
set_option Elab.async false
set_option linter.all false
set_option maxRecDepth 100000
set_option maxHeartbeats 4000000
namespace ZZ
open PySem PySem.Spec L2 L2H
theorem sc_BadLayer___init__ : FnScope ["self", "index"] ["self", "index"] (defScope s_BadLayer___init__) := ⟨rfl, rfl, rfl, by decide +kernel, rfl, by decide +kernel, by decide +kernel⟩
theorem sc_BadJoint___init__ : FnScope ["self", "index"] ["self", "index"] (defScope s_BadJoint___init__) := ⟨rfl, rfl, rfl, by decide +kernel, rfl, by decide +kernel, by decide +kernel⟩
theorem sc_NoLayer___init__ : FnScope ["self", "index"] ["self", "index"] (defScope s_NoLayer___init__) := ⟨rfl, rfl, rfl, by decide +kernel, rfl, by decide +kernel, by decide +kernel⟩
theorem sc_NoJoint___init__ : FnScope ["self", "index"] ["self", "index"] (defScope s_NoJoint___init__) := ⟨rfl, rfl, rfl, by decide +kernel, rfl, by decide +kernel, by decide +kernel⟩
theorem sc_BadText___init__ : FnScope ["self", "word"] ["self", "word"] (defScope s_BadText___init__) := ⟨rfl, rfl, rfl, by decide +kernel, rfl, by decide +kernel, by decide +kernel⟩
theorem sc_BadRecord___init__ : FnScope ["self", "index"] ["self", "index"] (defScope s_BadRecord___init__) := ⟨rfl, rfl, rfl, by decide +kernel, rfl, by decide +kernel, by decide +kernel⟩
theorem sc_Clash___init__ : FnScope ["self", "first", "second"] ["self", "first", "second"] (defScope s_Clash___init__) := ⟨rfl, rfl, rfl, by decide +kernel, rfl, by decide +kernel, by decide +kernel⟩
theorem sc_BadNumber___init__ : FnScope ["self", "number"] ["self", "number"] (defScope s_BadNumber___init__) := ⟨rfl, rfl, rfl, by decide +kernel, rfl, by decide +kernel, by decide +kernel⟩
theorem sc_NoSaying___init__ : FnScope ["self", "index"] ["self", "index"] (defScope s_NoSaying___init__) := ⟨rfl, rfl, rfl, by decide +kernel, rfl, by decide +kernel, by decide +kernel⟩
theorem sc__law_mix : FnScope n__law_mix ["_law_cell", "_law_turn"] (defScope s__law_mix) := ⟨rfl, rfl, rfl, by decide +kernel, rfl, by decide +kernel, by decide +kernel⟩
theorem sc__law_pool : FnScope n__law_pool ["_law_script", "_law_many"] (defScope s__law_pool) := ⟨rfl, rfl, rfl, by decide +kernel, rfl, by decide +kernel, by decide +kernel⟩
theorem sc__law_draw : FnScope n__law_draw ["_law_pool_here", "_law_bound"] (defScope s__law_draw) := ⟨rfl, rfl, rfl, by decide +kernel, rfl, by decide +kernel, by decide +kernel⟩
theorem sc__law_number : FnScope n__law_number ["_law_pool_here"] (defScope s__law_number) := ⟨rfl, rfl, rfl, by decide +kernel, rfl, by decide +kernel, by decide +kernel⟩
theorem sc__law_whole : FnScope n__law_whole ["_law_number_here"] (defScope s__law_whole) := ⟨rfl, rfl, rfl, by decide +kernel, rfl, by decide +kernel, by decide +kernel⟩
theorem sc__law_kin : FnScope n__law_kin ["_law_e"] (defScope s__law_kin) := ⟨rfl, rfl, rfl, by decide +kernel, rfl, by decide +kernel, by decide +kernel⟩
theorem sc__law_plain : FnScope n__law_plain ["_law_n", "_law_m"] (defScope s__law_plain) := ⟨rfl, rfl, rfl, by decide +kernel, rfl, by decide +kernel, by decide +kernel⟩
theorem sc__law_bare : FnScope n__law_bare [] (defScope s__law_bare) := ⟨rfl, rfl, rfl, by decide +kernel, rfl, by decide +kernel, by decide +kernel⟩
theorem sc__law_values : FnScope n__law_values ["_law_n", "_law_m"] (defScope s__law_values) := ⟨rfl, rfl, rfl, by decide +kernel, rfl, by decide +kernel, by decide +kernel⟩
theorem sc_law : FnScope n_law ["_law_script"] (defScope s_law) := ⟨rfl, rfl, rfl, by decide +kernel, rfl, by decide +kernel, by decide +kernel⟩
/-- what the top has written -/
structure Tx (P : Program) (w : World) (K : PySem.W.Frag) (mg : Str → Option Value) (ad cl : Nat → Addr) : Prop where
  b_ValueError : mg "ValueError" = none
  b_abs : mg "abs" = none
  b_bool : mg "bool" = none
  b_int : mg "int" = none
  b_isinstance : mg "isinstance" = none
  b_len : mg "len" = none
  b_min : mg "min" = none
  b_range : mg "range" = none
  f__law_mix : ∃ fd, Fun K "_law_mix" "_law_mix" s__law_mix (ad 0) fd ∧ Binds K fd ["_law_cell", "_law_turn"] []
  g__law_mix : mg "_law_mix" = some (.ref (ad 0))
  f__law_pool : ∃ fd, Fun K "_law_pool" "_law_pool" s__law_pool (ad 1) fd ∧ Binds K fd ["_law_script", "_law_many"] []
  g__law_pool : mg "_law_pool" = some (.ref (ad 1))
  f__law_draw : ∃ fd, Fun K "_law_draw" "_law_draw" s__law_draw (ad 2) fd ∧ Binds K fd ["_law_pool_here", "_law_bound"] []
  g__law_draw : mg "_law_draw" = some (.ref (ad 2))
  f__law_number : ∃ fd, Fun K "_law_number" "_law_number" s__law_number (ad 3) fd ∧ Binds K fd ["_law_pool_here"] []
  g__law_number : mg "_law_number" = some (.ref (ad 3))
  f__law_whole : ∃ fd, Fun K "_law_whole" "_law_whole" s__law_whole (ad 4) fd ∧ Binds K fd ["_law_number_here"] []
  g__law_whole : mg "_law_whole" = some (.ref (ad 4))
  f__law_kin : ∃ fd, Fun K "_law_kin" "_law_kin" s__law_kin (ad 5) fd ∧ Binds K fd ["_law_e"] []
  g__law_kin : mg "_law_kin" = some (.ref (ad 5))
  f__law_plain : ∃ fd, Fun K "_law_plain" "_law_plain" s__law_plain (ad 6) fd ∧ Binds K fd ["_law_n", "_law_m"] []
  g__law_plain : mg "_law_plain" = some (.ref (ad 6))
  f__law_bare : ∃ fd, Fun K "_law_bare" "_law_bare" s__law_bare (ad 7) fd ∧ Binds K fd [] []
  g__law_bare : mg "_law_bare" = some (.ref (ad 7))
  f__law_values : ∃ fd, Fun K "_law_values" "_law_values" s__law_values (ad 8) fd ∧ Binds K fd ["_law_n", "_law_m"] []
  g__law_values : mg "_law_values" = some (.ref (ad 8))
  f_law : ∃ fd, Fun K "law" "law" s_law (ad 9) fd ∧ Binds K fd ["_law_script"] []
  g_law : mg "law" = some (.ref (ad 9))
  g_SiltError : mg "SiltError" = some (.ref (cl 14))
  g_BadCore : mg "BadCore" = some (.ref (cl 0))
  xt_BadCore : ExT K (cl 0)
  g_BadLayer : mg "BadLayer" = some (.ref (cl 1))
  o_BadLayer : OexC K (cl 1)
  i_BadLayer : PySem.W.findIn K (.ref (cl 1)) "__init__" = some (some (.ref (ad 10)))
  t_BadLayer : PySem.W.typeIn K (.ref (ad 10)) = some (.type "function")
  nx_BadLayer_index : PySem.W.findIn K (.ref (cl 1)) "index" = some none
  f_BadLayer___init__ : ∃ fd, Fun K "__init__" "BadLayer.__init__" s_BadLayer___init__ (ad 10) fd ∧ Binds K fd ["self", "index"] []
  g_BadJoint : mg "BadJoint" = some (.ref (cl 2))
  o_BadJoint : OexC K (cl 2)
  i_BadJoint : PySem.W.findIn K (.ref (cl 2)) "__init__" = some (some (.ref (ad 11)))
  t_BadJoint : PySem.W.typeIn K (.ref (ad 11)) = some (.type "function")
  nx_BadJoint_index : PySem.W.findIn K (.ref (cl 2)) "index" = some none
  f_BadJoint___init__ : ∃ fd, Fun K "__init__" "BadJoint.__init__" s_BadJoint___init__ (ad 11) fd ∧ Binds K fd ["self", "index"] []
  g_NoLayer : mg "NoLayer" = some (.ref (cl 3))
  o_NoLayer : OexC K (cl 3)
  i_NoLayer : PySem.W.findIn K (.ref (cl 3)) "__init__" = some (some (.ref (ad 12)))
  t_NoLayer : PySem.W.typeIn K (.ref (ad 12)) = some (.type "function")
  nx_NoLayer_index : PySem.W.findIn K (.ref (cl 3)) "index" = some none
  f_NoLayer___init__ : ∃ fd, Fun K "__init__" "NoLayer.__init__" s_NoLayer___init__ (ad 12) fd ∧ Binds K fd ["self", "index"] []
  g_NoJoint : mg "NoJoint" = some (.ref (cl 4))
  o_NoJoint : OexC K (cl 4)
  i_NoJoint : PySem.W.findIn K (.ref (cl 4)) "__init__" = some (some (.ref (ad 13)))
  t_NoJoint : PySem.W.typeIn K (.ref (ad 13)) = some (.type "function")
  nx_NoJoint_index : PySem.W.findIn K (.ref (cl 4)) "index" = some none
  f_NoJoint___init__ : ∃ fd, Fun K "__init__" "NoJoint.__init__" s_NoJoint___init__ (ad 13) fd ∧ Binds K fd ["self", "index"] []
  g_BadText : mg "BadText" = some (.ref (cl 5))
  o_BadText : OexC K (cl 5)
  i_BadText : PySem.W.findIn K (.ref (cl 5)) "__init__" = some (some (.ref (ad 14)))
  t_BadText : PySem.W.typeIn K (.ref (ad 14)) = some (.type "function")
  nx_BadText_word : PySem.W.findIn K (.ref (cl 5)) "word" = some none
  f_BadText___init__ : ∃ fd, Fun K "__init__" "BadText.__init__" s_BadText___init__ (ad 14) fd ∧ Binds K fd ["self", "word"] []
  g_BadRecord : mg "BadRecord" = some (.ref (cl 6))
  o_BadRecord : OexC K (cl 6)
  i_BadRecord : PySem.W.findIn K (.ref (cl 6)) "__init__" = some (some (.ref (ad 15)))
  t_BadRecord : PySem.W.typeIn K (.ref (ad 15)) = some (.type "function")
  nx_BadRecord_index : PySem.W.findIn K (.ref (cl 6)) "index" = some none
  f_BadRecord___init__ : ∃ fd, Fun K "__init__" "BadRecord.__init__" s_BadRecord___init__ (ad 15) fd ∧ Binds K fd ["self", "index"] []
  g_Unlike : mg "Unlike" = some (.ref (cl 7))
  xt_Unlike : ExT K (cl 7)
  g_NotFitting : mg "NotFitting" = some (.ref (cl 8))
  xt_NotFitting : ExT K (cl 8)
  g_NoRecord : mg "NoRecord" = some (.ref (cl 9))
  xt_NoRecord : ExT K (cl 9)
  g_Clash : mg "Clash" = some (.ref (cl 10))
  o_Clash : OexC K (cl 10)
  i_Clash : PySem.W.findIn K (.ref (cl 10)) "__init__" = some (some (.ref (ad 16)))
  t_Clash : PySem.W.typeIn K (.ref (ad 16)) = some (.type "function")
  nx_Clash_first : PySem.W.findIn K (.ref (cl 10)) "first" = some none
  nx_Clash_second : PySem.W.findIn K (.ref (cl 10)) "second" = some none
  f_Clash___init__ : ∃ fd, Fun K "__init__" "Clash.__init__" s_Clash___init__ (ad 16) fd ∧ Binds K fd ["self", "first", "second"] []
  g_BadNumber : mg "BadNumber" = some (.ref (cl 11))
  o_BadNumber : OexC K (cl 11)
  i_BadNumber : PySem.W.findIn K (.ref (cl 11)) "__init__" = some (some (.ref (ad 17)))
  t_BadNumber : PySem.W.typeIn K (.ref (ad 17)) = some (.type "function")
  nx_BadNumber_number : PySem.W.findIn K (.ref (cl 11)) "number" = some none
  f_BadNumber___init__ : ∃ fd, Fun K "__init__" "BadNumber.__init__" s_BadNumber___init__ (ad 17) fd ∧ Binds K fd ["self", "number"] []
  g_NoContrary : mg "NoContrary" = some (.ref (cl 12))
  xt_NoContrary : ExT K (cl 12)
  g_NoSaying : mg "NoSaying" = some (.ref (cl 13))
  o_NoSaying : OexC K (cl 13)
  i_NoSaying : PySem.W.findIn K (.ref (cl 13)) "__init__" = some (some (.ref (ad 18)))
  t_NoSaying : PySem.W.typeIn K (.ref (ad 18)) = some (.type "function")
  nx_NoSaying_index : PySem.W.findIn K (.ref (cl 13)) "index" = some none
  f_NoSaying___init__ : ∃ fd, Fun K "__init__" "NoSaying.__init__" s_NoSaying___init__ (ad 18) fd ∧ Binds K fd ["self", "index"] []
  xi : ∀ c, c < 14 → XiC K (cl c)
  xk_BadCore : ∀ c, c < 14 → PySem.W.kitOne K (.ref (cl c)) (.ref (cl 0)) = some (x_BadCore c)
  xk_BadJoint : ∀ c, c < 14 → PySem.W.kitOne K (.ref (cl c)) (.ref (cl 2)) = some (x_BadJoint c)
  xk_BadLayer : ∀ c, c < 14 → PySem.W.kitOne K (.ref (cl c)) (.ref (cl 1)) = some (x_BadLayer c)
  xk_BadNumber : ∀ c, c < 14 → PySem.W.kitOne K (.ref (cl c)) (.ref (cl 11)) = some (x_BadNumber c)
  xk_BadRecord : ∀ c, c < 14 → PySem.W.kitOne K (.ref (cl c)) (.ref (cl 6)) = some (x_BadRecord c)
  xk_BadText : ∀ c, c < 14 → PySem.W.kitOne K (.ref (cl c)) (.ref (cl 5)) = some (x_BadText c)
  xk_Clash : ∀ c, c < 14 → PySem.W.kitOne K (.ref (cl c)) (.ref (cl 10)) = some (x_Clash c)
  xk_NoContrary : ∀ c, c < 14 → PySem.W.kitOne K (.ref (cl c)) (.ref (cl 12)) = some (x_NoContrary c)
  xk_NoJoint : ∀ c, c < 14 → PySem.W.kitOne K (.ref (cl c)) (.ref (cl 4)) = some (x_NoJoint c)
  xk_NoLayer : ∀ c, c < 14 → PySem.W.kitOne K (.ref (cl c)) (.ref (cl 3)) = some (x_NoLayer c)
  xk_NoRecord : ∀ c, c < 14 → PySem.W.kitOne K (.ref (cl c)) (.ref (cl 9)) = some (x_NoRecord c)
  xk_NoSaying : ∀ c, c < 14 → PySem.W.kitOne K (.ref (cl c)) (.ref (cl 13)) = some (x_NoSaying c)
  xk_NotFitting : ∀ c, c < 14 → PySem.W.kitOne K (.ref (cl c)) (.ref (cl 8)) = some (x_NotFitting c)
  xk_SiltError : ∀ c, c < 14 → PySem.W.kitOne K (.ref (cl c)) (.ref (cl 14)) = some (x_SiltError c)
  xk_Unlike : ∀ c, c < 14 → PySem.W.kitOne K (.ref (cl c)) (.ref (cl 7)) = some (x_Unlike c)
  xk_ValueError : ∀ c, c < 14 → PySem.W.kitOne K (.ref (cl c)) (.type "ValueError") = some (x_ValueError c)
  ik_bool : ∀ ty b, i_bool ty = some b → PySem.W.kitOne K (tyVal (Zz w K cl) ty) (.type "bool") = some b
  ic_bool : ∀ c b, i_bool (.c c) = some b → IsiC K (cl c)
  ik_int : ∀ ty b, i_int ty = some b → PySem.W.kitOne K (tyVal (Zz w K cl) ty) (.type "int") = some b
  ic_int : ∀ c b, i_int (.c c) = some b → IsiC K (cl c)
section
variable {P : Program} {w : World} {K : PySem.W.Frag} {mg : Str → Option Value} {base : Heap} {ad cl : Nat → Addr}
theorem io_BadLayer (T : Tx P w K mg ad cl) : IOk P w K mg base (ad 10) ["self", "index"] (spI1 K "index") := by
  obtain ⟨fd, F, bd⟩ := T.f_BadLayer___init__
  refine ⟨⟨fd, F.ok sc_BadLayer___init__ (fun vs H Q E h => ?_) (fun cdv A outer s H vs Q E hr h => ?_), bd⟩⟩
  · obtain ⟨a, C, v, rfl, _⟩ := h
    rfl
  · obtain ⟨a, C, v, rfl, TT, nf, hx, k⟩ := h
    refine ⟨_, pss_one (ps_ost (pv 0) (pv 1)), ?_⟩
    exact ⟨_, rfl, _, rfl, a, C, rfl, TT, nf, .inl ⟨hx, fun dx h1 h2 => k dx h1 h2⟩⟩
theorem x1_BadLayer (T : Tx P w K mg ad cl) : Ex1 P w K mg base (Zz w K cl) 1 "index" (ad 10) ["self", "index"] := ⟨T.o_BadLayer, T.i_BadLayer, T.t_BadLayer, T.nx_BadLayer_index, rfl, io_BadLayer T⟩
theorem io_BadJoint (T : Tx P w K mg ad cl) : IOk P w K mg base (ad 11) ["self", "index"] (spI1 K "index") := by
  obtain ⟨fd, F, bd⟩ := T.f_BadJoint___init__
  refine ⟨⟨fd, F.ok sc_BadJoint___init__ (fun vs H Q E h => ?_) (fun cdv A outer s H vs Q E hr h => ?_), bd⟩⟩
  · obtain ⟨a, C, v, rfl, _⟩ := h
    rfl
  · obtain ⟨a, C, v, rfl, TT, nf, hx, k⟩ := h
    refine ⟨_, pss_one (ps_ost (pv 0) (pv 1)), ?_⟩
    exact ⟨_, rfl, _, rfl, a, C, rfl, TT, nf, .inl ⟨hx, fun dx h1 h2 => k dx h1 h2⟩⟩
theorem x1_BadJoint (T : Tx P w K mg ad cl) : Ex1 P w K mg base (Zz w K cl) 2 "index" (ad 11) ["self", "index"] := ⟨T.o_BadJoint, T.i_BadJoint, T.t_BadJoint, T.nx_BadJoint_index, rfl, io_BadJoint T⟩
theorem io_NoLayer (T : Tx P w K mg ad cl) : IOk P w K mg base (ad 12) ["self", "index"] (spI1 K "index") := by
  obtain ⟨fd, F, bd⟩ := T.f_NoLayer___init__
  refine ⟨⟨fd, F.ok sc_NoLayer___init__ (fun vs H Q E h => ?_) (fun cdv A outer s H vs Q E hr h => ?_), bd⟩⟩
  · obtain ⟨a, C, v, rfl, _⟩ := h
    rfl
  · obtain ⟨a, C, v, rfl, TT, nf, hx, k⟩ := h
    refine ⟨_, pss_one (ps_ost (pv 0) (pv 1)), ?_⟩
    exact ⟨_, rfl, _, rfl, a, C, rfl, TT, nf, .inl ⟨hx, fun dx h1 h2 => k dx h1 h2⟩⟩
theorem x1_NoLayer (T : Tx P w K mg ad cl) : Ex1 P w K mg base (Zz w K cl) 3 "index" (ad 12) ["self", "index"] := ⟨T.o_NoLayer, T.i_NoLayer, T.t_NoLayer, T.nx_NoLayer_index, rfl, io_NoLayer T⟩
theorem io_NoJoint (T : Tx P w K mg ad cl) : IOk P w K mg base (ad 13) ["self", "index"] (spI1 K "index") := by
  obtain ⟨fd, F, bd⟩ := T.f_NoJoint___init__
  refine ⟨⟨fd, F.ok sc_NoJoint___init__ (fun vs H Q E h => ?_) (fun cdv A outer s H vs Q E hr h => ?_), bd⟩⟩
  · obtain ⟨a, C, v, rfl, _⟩ := h
    rfl
  · obtain ⟨a, C, v, rfl, TT, nf, hx, k⟩ := h
    refine ⟨_, pss_one (ps_ost (pv 0) (pv 1)), ?_⟩
    exact ⟨_, rfl, _, rfl, a, C, rfl, TT, nf, .inl ⟨hx, fun dx h1 h2 => k dx h1 h2⟩⟩
theorem x1_NoJoint (T : Tx P w K mg ad cl) : Ex1 P w K mg base (Zz w K cl) 4 "index" (ad 13) ["self", "index"] := ⟨T.o_NoJoint, T.i_NoJoint, T.t_NoJoint, T.nx_NoJoint_index, rfl, io_NoJoint T⟩
theorem io_BadText (T : Tx P w K mg ad cl) : IOk P w K mg base (ad 14) ["self", "word"] (spI1 K "word") := by
  obtain ⟨fd, F, bd⟩ := T.f_BadText___init__
  refine ⟨⟨fd, F.ok sc_BadText___init__ (fun vs H Q E h => ?_) (fun cdv A outer s H vs Q E hr h => ?_), bd⟩⟩
  · obtain ⟨a, C, v, rfl, _⟩ := h
    rfl
  · obtain ⟨a, C, v, rfl, TT, nf, hx, k⟩ := h
    refine ⟨_, pss_one (ps_ost (pv 0) (pv 1)), ?_⟩
    exact ⟨_, rfl, _, rfl, a, C, rfl, TT, nf, .inl ⟨hx, fun dx h1 h2 => k dx h1 h2⟩⟩
theorem x1_BadText (T : Tx P w K mg ad cl) : Ex1 P w K mg base (Zz w K cl) 5 "word" (ad 14) ["self", "word"] := ⟨T.o_BadText, T.i_BadText, T.t_BadText, T.nx_BadText_word, rfl, io_BadText T⟩
theorem io_BadRecord (T : Tx P w K mg ad cl) : IOk P w K mg base (ad 15) ["self", "index"] (spI1 K "index") := by
  obtain ⟨fd, F, bd⟩ := T.f_BadRecord___init__
  refine ⟨⟨fd, F.ok sc_BadRecord___init__ (fun vs H Q E h => ?_) (fun cdv A outer s H vs Q E hr h => ?_), bd⟩⟩
  · obtain ⟨a, C, v, rfl, _⟩ := h
    rfl
  · obtain ⟨a, C, v, rfl, TT, nf, hx, k⟩ := h
    refine ⟨_, pss_one (ps_ost (pv 0) (pv 1)), ?_⟩
    exact ⟨_, rfl, _, rfl, a, C, rfl, TT, nf, .inl ⟨hx, fun dx h1 h2 => k dx h1 h2⟩⟩
theorem x1_BadRecord (T : Tx P w K mg ad cl) : Ex1 P w K mg base (Zz w K cl) 6 "index" (ad 15) ["self", "index"] := ⟨T.o_BadRecord, T.i_BadRecord, T.t_BadRecord, T.nx_BadRecord_index, rfl, io_BadRecord T⟩
theorem io_Clash (T : Tx P w K mg ad cl) : IOk P w K mg base (ad 16) ["self", "first", "second"] (spI2 K "first" "second") := by
  obtain ⟨fd, F, bd⟩ := T.f_Clash___init__
  refine ⟨⟨fd, F.ok sc_Clash___init__ (fun vs H Q E h => ?_) (fun cdv A outer s H vs Q E hr h => ?_), bd⟩⟩
  · obtain ⟨a, C, v, u, rfl, _⟩ := h
    rfl
  · obtain ⟨a, C, v, u, rfl, TT, nf, ng, hx, k⟩ := h
    refine ⟨_, pss_cons (ps_ost (pv 0) (pv 1)) (pss_one (ps_ost (pv 0) (pv 2))), ?_⟩
    refine ⟨_, rfl, _, rfl, a, C, rfl, TT, nf, .inl ⟨hx, fun dx h1 h2 => ?_⟩⟩
    refine ⟨_, rfl, _, rfl, a, C, rfl, TT, ng, .inr ⟨dx, _, upd_same, ?_, (by show 1 ≤ 900; decide), k dx h1 h2⟩⟩
    rw [upd_ne h2, upd_same]
theorem x1_Clash (T : Tx P w K mg ad cl) : Ex2 P w K mg base (Zz w K cl) 10 "first" "second" (ad 16) ["self", "first", "second"] := ⟨T.o_Clash, T.i_Clash, T.t_Clash, T.nx_Clash_first, T.nx_Clash_second, rfl, io_Clash T⟩
theorem io_BadNumber (T : Tx P w K mg ad cl) : IOk P w K mg base (ad 17) ["self", "number"] (spI1 K "number") := by
  obtain ⟨fd, F, bd⟩ := T.f_BadNumber___init__
  refine ⟨⟨fd, F.ok sc_BadNumber___init__ (fun vs H Q E h => ?_) (fun cdv A outer s H vs Q E hr h => ?_), bd⟩⟩
  · obtain ⟨a, C, v, rfl, _⟩ := h
    rfl
  · obtain ⟨a, C, v, rfl, TT, nf, hx, k⟩ := h
    refine ⟨_, pss_one (ps_ost (pv 0) (pv 1)), ?_⟩
    exact ⟨_, rfl, _, rfl, a, C, rfl, TT, nf, .inl ⟨hx, fun dx h1 h2 => k dx h1 h2⟩⟩
theorem x1_BadNumber (T : Tx P w K mg ad cl) : Ex1 P w K mg base (Zz w K cl) 11 "number" (ad 17) ["self", "number"] := ⟨T.o_BadNumber, T.i_BadNumber, T.t_BadNumber, T.nx_BadNumber_number, rfl, io_BadNumber T⟩
theorem io_NoSaying (T : Tx P w K mg ad cl) : IOk P w K mg base (ad 18) ["self", "index"] (spI1 K "index") := by
  obtain ⟨fd, F, bd⟩ := T.f_NoSaying___init__
  refine ⟨⟨fd, F.ok sc_NoSaying___init__ (fun vs H Q E h => ?_) (fun cdv A outer s H vs Q E hr h => ?_), bd⟩⟩
  · obtain ⟨a, C, v, rfl, _⟩ := h
    rfl
  · obtain ⟨a, C, v, rfl, TT, nf, hx, k⟩ := h
    refine ⟨_, pss_one (ps_ost (pv 0) (pv 1)), ?_⟩
    exact ⟨_, rfl, _, rfl, a, C, rfl, TT, nf, .inl ⟨hx, fun dx h1 h2 => k dx h1 h2⟩⟩
theorem x1_NoSaying (T : Tx P w K mg ad cl) : Ex1 P w K mg base (Zz w K cl) 13 "index" (ad 18) ["self", "index"] := ⟨T.o_NoSaying, T.i_NoSaying, T.t_NoSaying, T.nx_NoSaying_index, rfl, io_NoSaying T⟩
theorem xf_first (T : Tx P w K mg ad cl) : ∀ c ∈ [10], XfC K ((Zz w K cl).cl c) ∧ PySem.W.findIn K (.ref ((Zz w K cl).cl c)) "first" = some none ∧ ((Zz w K cl).fl c)[1]? = some ("first" : Str) ∧ ((Zz w K cl).fl c).Nodup := by
  intro c h
  simp only [List.mem_cons, List.not_mem_nil, or_false] at h
  rcases h with rfl
  · exact ⟨(T.xi 10 (by decide)).xf, T.nx_Clash_first, rfl, by show (flds 10).Nodup; decide +kernel⟩
theorem xf_index (T : Tx P w K mg ad cl) : ∀ c ∈ [1, 2, 3, 4, 6, 13], XfC K ((Zz w K cl).cl c) ∧ PySem.W.findIn K (.ref ((Zz w K cl).cl c)) "index" = some none ∧ ((Zz w K cl).fl c)[0]? = some ("index" : Str) ∧ ((Zz w K cl).fl c).Nodup := by
  intro c h
  simp only [List.mem_cons, List.not_mem_nil, or_false] at h
  rcases h with rfl | rfl | rfl | rfl | rfl | rfl
  · exact ⟨(T.xi 1 (by decide)).xf, T.nx_BadLayer_index, rfl, by show (flds 1).Nodup; decide +kernel⟩
  · exact ⟨(T.xi 2 (by decide)).xf, T.nx_BadJoint_index, rfl, by show (flds 2).Nodup; decide +kernel⟩
  · exact ⟨(T.xi 3 (by decide)).xf, T.nx_NoLayer_index, rfl, by show (flds 3).Nodup; decide +kernel⟩
  · exact ⟨(T.xi 4 (by decide)).xf, T.nx_NoJoint_index, rfl, by show (flds 4).Nodup; decide +kernel⟩
  · exact ⟨(T.xi 6 (by decide)).xf, T.nx_BadRecord_index, rfl, by show (flds 6).Nodup; decide +kernel⟩
  · exact ⟨(T.xi 13 (by decide)).xf, T.nx_NoSaying_index, rfl, by show (flds 13).Nodup; decide +kernel⟩
theorem xf_number (T : Tx P w K mg ad cl) : ∀ c ∈ [11], XfC K ((Zz w K cl).cl c) ∧ PySem.W.findIn K (.ref ((Zz w K cl).cl c)) "number" = some none ∧ ((Zz w K cl).fl c)[0]? = some ("number" : Str) ∧ ((Zz w K cl).fl c).Nodup := by
  intro c h
  simp only [List.mem_cons, List.not_mem_nil, or_false] at h
  rcases h with rfl
  · exact ⟨(T.xi 11 (by decide)).xf, T.nx_BadNumber_number, rfl, by show (flds 11).Nodup; decide +kernel⟩
theorem xf_second (T : Tx P w K mg ad cl) : ∀ c ∈ [10], XfC K ((Zz w K cl).cl c) ∧ PySem.W.findIn K (.ref ((Zz w K cl).cl c)) "second" = some none ∧ ((Zz w K cl).fl c)[0]? = some ("second" : Str) ∧ ((Zz w K cl).fl c).Nodup := by
  intro c h
  simp only [List.mem_cons, List.not_mem_nil, or_false] at h
  rcases h with rfl
  · exact ⟨(T.xi 10 (by decide)).xf, T.nx_Clash_second, rfl, by show (flds 10).Nodup; decide +kernel⟩
theorem xf_word (T : Tx P w K mg ad cl) : ∀ c ∈ [5], XfC K ((Zz w K cl).cl c) ∧ PySem.W.findIn K (.ref ((Zz w K cl).cl c)) "word" = some none ∧ ((Zz w K cl).fl c)[0]? = some ("word" : Str) ∧ ((Zz w K cl).fl c).Nodup := by
  intro c h
  simp only [List.mem_cons, List.not_mem_nil, or_false] at h
  rcases h with rfl
  · exact ⟨(T.xi 5 (by decide)).xf, T.nx_BadText_word, rfl, by show (flds 5).Nodup; decide +kernel⟩
theorem ok__law_mix (T : Tx P w K mg ad cl) : DOk P w K mg base 1 (ad 0) ["_law_cell", "_law_turn"] (spD (Zz w K cl) f__law_mix 2) := by
  obtain ⟨fd, F, bd⟩ := T.f__law_mix
  refine ⟨⟨fd, fnD F sc__law_mix (body := b__law_mix) rfl rfl fun cdv A outer s H E hr => ?_, bd⟩, F.kp⟩
  have tk := L2N.takes_of (X := cxOf (L2N.CX P w) P w K mg base n__law_mix "_law_mix" (defScope s__law_mix) (ad 0) cdv A outer s H E) (E := E) rfl rfl rfl rfl
  have tw := tw_of tk
  exact (ds_cons (ds_set (i := 2) sc__law_mix.nd (de_mod (de_callTy call_int1 ok_int1 T.b_int (by decide +kernel) (da_cons (de_add (de_mul (de_mul (dv 0) de_int) (de_add (dv 1) de_int)) (de_mul de_int (dv 1))) da_nil)) de_int)) (ds_one (ds_ret (de_add (dv 2) (de_div (de_mul (dv 2) (dv 2)) de_int)))))
theorem ok__law_pool (T : Tx P w K mg ad cl) : DOk P w K mg base 2 (ad 1) ["_law_script", "_law_many"] (spD (Zz w K cl) f__law_pool 2) := by
  obtain ⟨fd, F, bd⟩ := T.f__law_pool
  refine ⟨⟨fd, fnD F sc__law_pool (body := b__law_pool) rfl rfl fun cdv A outer s H E hr => ?_, bd⟩, F.kp⟩
  have tk := L2N.takes_of (X := cxOf (L2N.CX P w) P w K mg base n__law_pool "_law_pool" (defScope s__law_pool) (ad 1) cdv A outer s H E) (E := E) rfl rfl rfl rfl
  have tw := tw_of tk
  exact (ds_cons (ds_set (i := 2) sc__law_pool.nd (de_lstC da_nil)) (ds_cons (ds_set (i := 3) sc__law_pool.nd de_int) (ds_cons (ds_for (passes_of rfl) (di_range1 T.b_range (da_cons (de_callB (call_min2 rfl) ok_min T.b_min (by decide +kernel) (da_cons (de_callB call_len (ok_len rfl) T.b_len PySem.boot_len (da_cons (dv 0) da_nil)) (da_cons de_int da_nil))) da_nil)) (dg_name (i := 4) sc__law_pool.nd) (ds_cons (ds_set (i := 3) sc__law_pool.nd (de_mod (de_callTy call_int1 ok_int1 T.b_int (by decide +kernel) (da_cons (de_add (dv 3) (de_mul (de_ix rfl (dv 0) (dv 4)) (de_add (dv 4) de_int))) da_nil)) de_int)) (ds_cons (ds_set (i := 5) sc__law_pool.nd (de_callB call_abs ok_abs T.b_abs (by decide +kernel) (da_cons (de_ix rfl (dv 0) (dv 4)) da_nil))) (ds_cons (ds_set (i := 6) sc__law_pool.nd (de_cmpK c_ge (dv 5) (de_pow de_int de_int))) (ds_one (ds_for (passes_of rfl) (di_range1 T.b_range (da_cons de_int da_nil)) (dg_name (i := 7) sc__law_pool.nd) (ds_one (ds_if (PW.pt (dw_and (dt_tru rfl (dv 6)) (dw_and1 (dt_cmp c_gt (dv 5) de_int)))) (ds_cons (ds_expr (de_append rfl (dv 2) (de_mod (de_callTy call_int1 ok_int1 T.b_int (by decide +kernel) (da_cons (dv 5) da_nil)) de_int))) (ds_one (ds_set (i := 5) sc__law_pool.nd (de_div (dv 5) de_int)))) (ds_one (ds_if (PW.pt (dw_and (dt_not (dt_tru rfl (dv 6))) (dw_and1 (dt_cmp c_lt (dv 7) de_int)))) (ds_one (ds_expr (de_append rfl (dv 2) (de_callD (ok__law_mix (P := P) (w := w) (base := base) T) (hr.mono (by decide)) T.g__law_mix tw (da_cons (de_ix rfl (dv 0) (dv 4)) (da_cons (dv 7) da_nil)))))) ds_nil)))))))))) (ds_cons (ds_for (passes_of rfl) (di_range1 T.b_range (da_cons (dv 1) da_nil)) (dg_name (i := 7) sc__law_pool.nd) (ds_one (ds_if (dt_cmp c_lt (de_callB call_len (ok_len rfl) T.b_len PySem.boot_len (da_cons (dv 2) da_nil)) (dv 1)) (ds_one (ds_expr (de_append rfl (dv 2) (de_callD (ok__law_mix (P := P) (w := w) (base := base) T) (hr.mono (by decide)) T.g__law_mix tw (da_cons (dv 3) (da_cons (de_callB call_len (ok_len rfl) T.b_len PySem.boot_len (da_cons (dv 2) da_nil)) da_nil)))))) ds_nil))) (ds_one (ds_ret (dv 2)))))))
theorem ok__law_draw (T : Tx P w K mg ad cl) : DOk P w K mg base 2 (ad 2) ["_law_pool_here", "_law_bound"] (spD (Zz w K cl) f__law_draw 2) := by
  obtain ⟨fd, F, bd⟩ := T.f__law_draw
  refine ⟨⟨fd, fnD F sc__law_draw (body := b__law_draw) rfl rfl fun cdv A outer s H E hr => ?_, bd⟩, F.kp⟩
  have tk := L2N.takes_of (X := cxOf (L2N.CX P w) P w K mg base n__law_draw "_law_draw" (defScope s__law_draw) (ad 2) cdv A outer s H E) (E := E) rfl rfl rfl rfl
  have tw := tw_of tk
  exact (ds_cons (ds_if (dt_cmp (c_eq rfl hr) (de_callB call_len (ok_len rfl) T.b_len PySem.boot_len (da_cons (dv 0) da_nil)) de_int) (ds_one (ds_ret de_int)) ds_nil) (ds_one (ds_ret (de_mod (de_callTy call_int1 ok_int1 T.b_int (by decide +kernel) (da_cons (de_popAt rfl (dv 0) de_int) da_nil)) (dv 1)))))
theorem ok__law_number (T : Tx P w K mg ad cl) : DOk P w K mg base 3 (ad 3) ["_law_pool_here"] (spD (Zz w K cl) f__law_number 1) := by
  obtain ⟨fd, F, bd⟩ := T.f__law_number
  refine ⟨⟨fd, fnD F sc__law_number (body := b__law_number) rfl rfl fun cdv A outer s H E hr => ?_, bd⟩, F.kp⟩
  have tk := L2N.takes_of (X := cxOf (L2N.CX P w) P w K mg base n__law_number "_law_number" (defScope s__law_number) (ad 3) cdv A outer s H E) (E := E) rfl rfl rfl rfl
  have tw := tw_of tk
  exact (ds_cons (ds_set (i := 1) sc__law_number.nd (de_callD (ok__law_draw (P := P) (w := w) (base := base) T) (hr.mono (by decide)) T.g__law_draw tw (da_cons (dv 0) (da_cons de_int da_nil)))) (ds_cons (ds_set (i := 2) sc__law_number.nd (de_callD (ok__law_draw (P := P) (w := w) (base := base) T) (hr.mono (by decide)) T.g__law_draw tw (da_cons (dv 0) (da_cons de_int da_nil)))) (ds_cons (ds_if (dt_cmp (c_eq rfl hr) (dv 1) de_int) (ds_one (ds_for (passes_of rfl) (di_range1 T.b_range (da_cons de_int da_nil)) (dg_name (i := 3) sc__law_number.nd) (ds_one (ds_set (i := 2) sc__law_number.nd (de_add (de_mul (dv 2) de_int) (de_callD (ok__law_draw (P := P) (w := w) (base := base) T) (hr.mono (by decide)) T.g__law_draw tw (da_cons (dv 0) (da_cons de_int da_nil)))))))) ds_nil) (ds_one (ds_ret (de_mod (de_callTy call_int1 ok_int1 T.b_int (by decide +kernel) (da_cons (dv 2) da_nil)) (de_pow de_int de_int)))))))
theorem ok__law_whole (T : Tx P w K mg ad cl) : DOk P w K mg base 1 (ad 4) ["_law_number_here"] (spD (Zz w K cl) f__law_whole 1) := by
  obtain ⟨fd, F, bd⟩ := T.f__law_whole
  refine ⟨⟨fd, fnD F sc__law_whole (body := b__law_whole) rfl rfl fun cdv A outer s H E hr => ?_, bd⟩, F.kp⟩
  have tk := L2N.takes_of (X := cxOf (L2N.CX P w) P w K mg base n__law_whole "_law_whole" (defScope s__law_whole) (ad 4) cdv A outer s H E) (E := E) rfl rfl rfl rfl
  have tw := tw_of tk
  exact (ds_one (ds_ret (de_and (de_isi (pe_bltn (v := .ty "int") (u := .type "int") rfl T.b_int (by decide +kernel) rfl) (.ty _) rfl T.ik_int T.ic_int (dv 0) T.b_isinstance) (de_one (de_not (de_isi (pe_bltn (v := .ty "bool") (u := .type "bool") rfl T.b_bool (by decide +kernel) rfl) (.ty _) rfl T.ik_bool T.ic_bool (dv 0) T.b_isinstance))))))
theorem ok__law_kin (T : Tx P w K mg ad cl) : DOk P w K mg base 1 (ad 5) ["_law_e"] (spD (Zz w K cl) f__law_kin 1) := by
  obtain ⟨fd, F, bd⟩ := T.f__law_kin
  refine ⟨⟨fd, fnD F sc__law_kin (body := b__law_kin) rfl rfl fun cdv A outer s H E hr => ?_, bd⟩, F.kp⟩
  have tk := L2N.takes_of (X := cxOf (L2N.CX P w) P w K mg base n__law_kin "_law_kin" (defScope s__law_kin) (ad 5) cdv A outer s H E) (E := E) rfl rfl rfl rfl
  have tw := tw_of tk
  exact (ds_cons (ds_if (PW.pt (dw_or (dt_not (dt_val (de_isV T.xi (pe_glob (v := .ref (cl 14)) rfl T.g_SiltError rfl) (fun _ r => r) T.xk_SiltError (dv 0) T.b_isinstance))) (dw_or1 (dt_not (dt_val (de_isV T.xi (pe_bltn (v := .ty "ValueError") (u := .type "ValueError") rfl T.b_ValueError (by decide +kernel) rfl) (fun _ r => r) T.xk_ValueError (dv 0) T.b_isinstance)))))) (ds_one (ds_ret (de_lst (da_cons (de_neg de_int) da_nil)))) ds_nil) (ds_cons (ds_set (i := 1) sc__law_kin.nd (de_lstC (da_cons (de_isV T.xi (pe_glob (v := .ref (cl 0)) rfl T.g_BadCore rfl) (fun _ r => r) T.xk_BadCore (dv 0) T.b_isinstance) (da_cons (de_isV T.xi (pe_glob (v := .ref (cl 1)) rfl T.g_BadLayer rfl) (fun _ r => r) T.xk_BadLayer (dv 0) T.b_isinstance) (da_cons (de_isV T.xi (pe_glob (v := .ref (cl 2)) rfl T.g_BadJoint rfl) (fun _ r => r) T.xk_BadJoint (dv 0) T.b_isinstance) da_nil))))) (ds_cons (ds_expr (de_append rfl (dv 1) (de_isV T.xi (pe_glob (v := .ref (cl 3)) rfl T.g_NoLayer rfl) (fun _ r => r) T.xk_NoLayer (dv 0) T.b_isinstance))) (ds_cons (ds_expr (de_append rfl (dv 1) (de_isV T.xi (pe_glob (v := .ref (cl 4)) rfl T.g_NoJoint rfl) (fun _ r => r) T.xk_NoJoint (dv 0) T.b_isinstance))) (ds_cons (ds_expr (de_append rfl (dv 1) (de_isV T.xi (pe_glob (v := .ref (cl 5)) rfl T.g_BadText rfl) (fun _ r => r) T.xk_BadText (dv 0) T.b_isinstance))) (ds_cons (ds_expr (de_append rfl (dv 1) (de_isV T.xi (pe_glob (v := .ref (cl 6)) rfl T.g_BadRecord rfl) (fun _ r => r) T.xk_BadRecord (dv 0) T.b_isinstance))) (ds_cons (ds_expr (de_append rfl (dv 1) (de_isV T.xi (pe_glob (v := .ref (cl 7)) rfl T.g_Unlike rfl) (fun _ r => r) T.xk_Unlike (dv 0) T.b_isinstance))) (ds_cons (ds_expr (de_append rfl (dv 1) (de_isV T.xi (pe_glob (v := .ref (cl 8)) rfl T.g_NotFitting rfl) (fun _ r => r) T.xk_NotFitting (dv 0) T.b_isinstance))) (ds_cons (ds_expr (de_append rfl (dv 1) (de_isV T.xi (pe_glob (v := .ref (cl 9)) rfl T.g_NoRecord rfl) (fun _ r => r) T.xk_NoRecord (dv 0) T.b_isinstance))) (ds_cons (ds_expr (de_append rfl (dv 1) (de_isV T.xi (pe_glob (v := .ref (cl 10)) rfl T.g_Clash rfl) (fun _ r => r) T.xk_Clash (dv 0) T.b_isinstance))) (ds_cons (ds_expr (de_append rfl (dv 1) (de_isV T.xi (pe_glob (v := .ref (cl 11)) rfl T.g_BadNumber rfl) (fun _ r => r) T.xk_BadNumber (dv 0) T.b_isinstance))) (ds_cons (ds_expr (de_append rfl (dv 1) (de_isV T.xi (pe_glob (v := .ref (cl 12)) rfl T.g_NoContrary rfl) (fun _ r => r) T.xk_NoContrary (dv 0) T.b_isinstance))) (ds_cons (ds_expr (de_append rfl (dv 1) (de_isV T.xi (pe_glob (v := .ref (cl 13)) rfl T.g_NoSaying rfl) (fun _ r => r) T.xk_NoSaying (dv 0) T.b_isinstance))) (ds_one (ds_ret (de_settle (de_lcC (own := [("_law_k", 2)]) rfl sc__law_kin.nd (blkOk_by (own := [("_law_k", 2)]) (N := n__law_kin) (sc := defScope s__law_kin) (by decide +kernel)) (by decide) (di_range1 T.b_range (da_cons de_int da_nil)) (fun _ _ _ _ _ => (dg_name (i := 2) sc__law_kin.nd)) (fun _ _ _ _ _ => (dts_one (dt_tru rfl (de_ix rfl (dv 1) (dv 2))))) (fun _ _ _ _ _ => (dv 2)))))))))))))))))))
theorem ok__law_plain (T : Tx P w K mg ad cl) : DOk P w K mg base 3 (ad 6) ["_law_n", "_law_m"] (spD (Zz w K cl) f__law_plain 2) := by
  obtain ⟨fd, F, bd⟩ := T.f__law_plain
  refine ⟨⟨fd, fnD F sc__law_plain (body := b__law_plain) rfl rfl fun cdv A outer s H E hr => ?_, bd⟩, F.kp⟩
  have tk := L2N.takes_of (X := cxOf (L2N.CX P w) P w K mg base n__law_plain "_law_plain" (defScope s__law_plain) (ad 6) cdv A outer s H E) (E := E) rfl rfl rfl rfl
  have tw := tw_of tk
  exact (ds_cons (ds_set (i := 2) sc__law_plain.nd (de_lstC (da_cons (de_callD (ok__law_kin (P := P) (w := w) (base := base) T) (hr.mono (by decide)) T.g__law_kin tw (da_cons (de_xb1 T.xt_BadCore T.g_BadCore de_str) da_nil)) (da_cons (de_callD (ok__law_kin (P := P) (w := w) (base := base) T) (hr.mono (by decide)) T.g__law_kin tw (da_cons (de_xm1 (x1_BadLayer (P := P) (w := w) (base := base) T) (hr.mono (by decide)) T.g_BadLayer (da_cons (dv 0) da_nil)) da_nil)) (da_cons (de_callD (ok__law_kin (P := P) (w := w) (base := base) T) (hr.mono (by decide)) T.g__law_kin tw (da_cons (de_xm1 (x1_BadJoint (P := P) (w := w) (base := base) T) (hr.mono (by decide)) T.g_BadJoint (da_cons (dv 0) da_nil)) da_nil)) da_nil))))) (ds_cons (ds_set (i := 2) sc__law_plain.nd (de_op op_addA ok_addC (dv 2) (de_lst (da_cons (de_callD (ok__law_kin (P := P) (w := w) (base := base) T) (hr.mono (by decide)) T.g__law_kin tw (da_cons (de_xm1 (x1_NoLayer (P := P) (w := w) (base := base) T) (hr.mono (by decide)) T.g_NoLayer (da_cons (dv 0) da_nil)) da_nil)) (da_cons (de_callD (ok__law_kin (P := P) (w := w) (base := base) T) (hr.mono (by decide)) T.g__law_kin tw (da_cons (de_xm1 (x1_NoJoint (P := P) (w := w) (base := base) T) (hr.mono (by decide)) T.g_NoJoint (da_cons (dv 0) da_nil)) da_nil)) da_nil))))) (ds_cons (ds_set (i := 2) sc__law_plain.nd (de_op op_addA ok_addC (dv 2) (de_lst (da_cons (de_callD (ok__law_kin (P := P) (w := w) (base := base) T) (hr.mono (by decide)) T.g__law_kin tw (da_cons (de_xm1 (x1_BadText (P := P) (w := w) (base := base) T) (hr.mono (by decide)) T.g_BadText (da_cons (dv 0) da_nil)) da_nil)) (da_cons (de_callD (ok__law_kin (P := P) (w := w) (base := base) T) (hr.mono (by decide)) T.g__law_kin tw (da_cons (de_xm1 (x1_BadRecord (P := P) (w := w) (base := base) T) (hr.mono (by decide)) T.g_BadRecord (da_cons (dv 0) da_nil)) da_nil)) da_nil))))) (ds_cons (ds_set (i := 2) sc__law_plain.nd (de_op op_addA ok_addC (dv 2) (de_lst (da_cons (de_callD (ok__law_kin (P := P) (w := w) (base := base) T) (hr.mono (by decide)) T.g__law_kin tw (da_cons (de_xb1 T.xt_Unlike T.g_Unlike de_str) da_nil)) (da_cons (de_callD (ok__law_kin (P := P) (w := w) (base := base) T) (hr.mono (by decide)) T.g__law_kin tw (da_cons (de_xb1 T.xt_NotFitting T.g_NotFitting de_str) da_nil)) da_nil))))) (ds_cons (ds_set (i := 2) sc__law_plain.nd (de_op op_addA ok_addC (dv 2) (de_lst (da_cons (de_callD (ok__law_kin (P := P) (w := w) (base := base) T) (hr.mono (by decide)) T.g__law_kin tw (da_cons (de_xb1 T.xt_NoRecord T.g_NoRecord de_str) da_nil)) (da_cons (de_callD (ok__law_kin (P := P) (w := w) (base := base) T) (hr.mono (by decide)) T.g__law_kin tw (da_cons (de_xm2 (x1_Clash (P := P) (w := w) (base := base) T) (hr.mono (by decide)) T.g_Clash (da_cons (dv 0) (da_cons (dv 1) da_nil))) da_nil)) da_nil))))) (ds_cons (ds_set (i := 2) sc__law_plain.nd (de_op op_addA ok_addC (dv 2) (de_lst (da_cons (de_callD (ok__law_kin (P := P) (w := w) (base := base) T) (hr.mono (by decide)) T.g__law_kin tw (da_cons (de_xm1 (x1_BadNumber (P := P) (w := w) (base := base) T) (hr.mono (by decide)) T.g_BadNumber (da_cons (dv 0) da_nil)) da_nil)) (da_cons (de_callD (ok__law_kin (P := P) (w := w) (base := base) T) (hr.mono (by decide)) T.g__law_kin tw (da_cons (de_xb1 T.xt_NoContrary T.g_NoContrary de_str) da_nil)) da_nil))))) (ds_cons (ds_expr (de_append rfl (dv 2) (de_callD (ok__law_kin (P := P) (w := w) (base := base) T) (hr.mono (by decide)) T.g__law_kin tw (da_cons (de_xm1 (x1_NoSaying (P := P) (w := w) (base := base) T) (hr.mono (by decide)) T.g_NoSaying (da_cons (dv 0) da_nil)) da_nil)))) (ds_cons (ds_setLc (i := 3) (own := [("_law_k", 4)]) rfl sc__law_plain.nd (blkOk_by (own := [("_law_k", 4)]) (N := n__law_plain) (sc := defScope s__law_plain) (by decide +kernel)) (by decide) (di_range1 T.b_range (da_cons de_int da_nil)) (fun _ _ _ _ _ => (dg_name (i := 4) sc__law_plain.nd)) (fun _ _ _ _ _ => dts_nil) (fun _ _ _ _ _ => (de_lst (da_cons (dv 4) da_nil)))) (ds_cons (ds_setIx (dv 3) de_int (de_lst (da_cons de_int (da_cons de_int da_nil)))) (ds_cons (ds_setIx (dv 3) de_int (de_lst (da_cons de_int (da_cons de_int da_nil)))) (ds_cons (ds_setIx (dv 3) de_int (de_lst (da_cons de_int (da_cons de_int da_nil)))) (ds_one (ds_ret (de_cmpK (c_eq rfl hr) (dv 2) (dv 3)))))))))))))))
theorem ok__law_bare (T : Tx P w K mg ad cl) : DOk P w K mg base 2 (ad 7) [] (spD (Zz w K cl) f__law_bare 0) := by
  obtain ⟨fd, F, bd⟩ := T.f__law_bare
  refine ⟨⟨fd, fnD F sc__law_bare (body := b__law_bare) rfl rfl fun cdv A outer s H E hr => ?_, bd⟩, F.kp⟩
  have tk := L2N.takes_of (X := cxOf (L2N.CX P w) P w K mg base n__law_bare "_law_bare" (defScope s__law_bare) (ad 7) cdv A outer s H E) (E := E) rfl rfl rfl rfl
  have tw := tw_of tk
  exact (ds_cons (ds_set (i := 0) sc__law_bare.nd (de_lst (da_cons (de_callD (ok__law_kin (P := P) (w := w) (base := base) T) (hr.mono (by decide)) T.g__law_kin tw (da_cons (de_xb0 T.xt_BadCore T.g_BadCore) da_nil)) (da_cons (de_callD (ok__law_kin (P := P) (w := w) (base := base) T) (hr.mono (by decide)) T.g__law_kin tw (da_cons (de_xb0 T.xt_Unlike T.g_Unlike) da_nil)) (da_cons (de_callD (ok__law_kin (P := P) (w := w) (base := base) T) (hr.mono (by decide)) T.g__law_kin tw (da_cons (de_xb0 T.xt_NotFitting T.g_NotFitting) da_nil)) da_nil))))) (ds_cons (ds_set (i := 0) sc__law_bare.nd (de_add (dv 0) (de_lst (da_cons (de_callD (ok__law_kin (P := P) (w := w) (base := base) T) (hr.mono (by decide)) T.g__law_kin tw (da_cons (de_xb0 T.xt_NoRecord T.g_NoRecord) da_nil)) (da_cons (de_callD (ok__law_kin (P := P) (w := w) (base := base) T) (hr.mono (by decide)) T.g__law_kin tw (da_cons (de_xb0 T.xt_NoContrary T.g_NoContrary) da_nil)) da_nil))))) (ds_one (ds_ret (de_cmpK (c_eq rfl hr) (dv 0) (de_lst (da_cons (de_lst (da_cons de_int da_nil)) (da_cons (de_lst (da_cons de_int da_nil)) (da_cons (de_lst (da_cons de_int da_nil)) (da_cons (de_lst (da_cons de_int da_nil)) (da_cons (de_lst (da_cons de_int da_nil)) da_nil)))))))))))
theorem ok__law_values (T : Tx P w K mg ad cl) : DOk P w K mg base 3 (ad 8) ["_law_n", "_law_m"] (spD (Zz w K cl) f__law_values 2) := by
  obtain ⟨fd, F, bd⟩ := T.f__law_values
  refine ⟨⟨fd, fnD F sc__law_values (body := b__law_values) rfl rfl fun cdv A outer s H E hr => ?_, bd⟩, F.kp⟩
  have tk := L2N.takes_of (X := cxOf (L2N.CX P w) P w K mg base n__law_values "_law_values" (defScope s__law_values) (ad 8) cdv A outer s H E) (E := E) rfl rfl rfl rfl
  have tw := tw_of tk
  exact (ds_cons (ds_set (i := 2) sc__law_values.nd (de_lst (da_cons (de_xfV (xf_index T) (de_xm1 (x1_BadLayer (P := P) (w := w) (base := base) T) (hr.mono (by decide)) T.g_BadLayer (da_cons (dv 0) da_nil))) (da_cons (de_xfV (xf_index T) (de_xm1 (x1_BadJoint (P := P) (w := w) (base := base) T) (hr.mono (by decide)) T.g_BadJoint (da_cons (dv 0) da_nil))) (da_cons (de_xfV (xf_index T) (de_xm1 (x1_NoLayer (P := P) (w := w) (base := base) T) (hr.mono (by decide)) T.g_NoLayer (da_cons (dv 0) da_nil))) da_nil))))) (ds_cons (ds_set (i := 2) sc__law_values.nd (de_add (dv 2) (de_lst (da_cons (de_xfV (xf_index T) (de_xm1 (x1_NoJoint (P := P) (w := w) (base := base) T) (hr.mono (by decide)) T.g_NoJoint (da_cons (dv 0) da_nil))) (da_cons (de_xfV (xf_index T) (de_xm1 (x1_BadRecord (P := P) (w := w) (base := base) T) (hr.mono (by decide)) T.g_BadRecord (da_cons (dv 0) da_nil))) (da_cons (de_xfV (xf_index T) (de_xm1 (x1_NoSaying (P := P) (w := w) (base := base) T) (hr.mono (by decide)) T.g_NoSaying (da_cons (dv 0) da_nil))) da_nil)))))) (ds_cons (ds_set (i := 2) sc__law_values.nd (de_add (dv 2) (de_lst (da_cons (de_xfV (xf_word T) (de_xm1 (x1_BadText (P := P) (w := w) (base := base) T) (hr.mono (by decide)) T.g_BadText (da_cons (dv 0) da_nil))) (da_cons (de_xfV (xf_number T) (de_xm1 (x1_BadNumber (P := P) (w := w) (base := base) T) (hr.mono (by decide)) T.g_BadNumber (da_cons (dv 0) da_nil))) (da_cons (de_xfV (xf_first T) (de_xm2 (x1_Clash (P := P) (w := w) (base := base) T) (hr.mono (by decide)) T.g_Clash (da_cons (dv 0) (da_cons (dv 1) da_nil)))) da_nil)))))) (ds_cons (ds_for (passes_of rfl) (di_list rfl (dv 2)) (dg_name (i := 3) sc__law_values.nd) (ds_one (ds_if (PW.pt (dw_or (dt_not (dt_val (de_callD (ok__law_whole (P := P) (w := w) (base := base) T) (hr.mono (by decide)) T.g__law_whole tw (da_cons (dv 3) da_nil)))) (dw_or1 (dt_cmp (c_ne rfl hr) (dv 3) (dv 0))))) (ds_one (ds_ret de_bl)) ds_nil))) (ds_cons (ds_set (i := 4) sc__law_values.nd (de_xm2 (x1_Clash (P := P) (w := w) (base := base) T) (hr.mono (by decide)) T.g_Clash (da_cons de_non (da_cons (dv 1) da_nil)))) (ds_one (ds_ret (de_and (de_cmpK c_isN (de_xfV (xf_first T) (dv 4)) de_non) (de_and (de_callD (ok__law_whole (P := P) (w := w) (base := base) T) (hr.mono (by decide)) T.g__law_whole tw (da_cons (de_xfV (xf_second T) (dv 4)) da_nil)) (de_one (de_cmpK (c_eq rfl hr) (de_xfV (xf_second T) (dv 4)) (dv 1))))))))))))
theorem okF_law (T : Tx P w K mg ad cl) {fa : Addr} {fd : FuncData} (F : Fun K "law" "law" s_law fa fd) : FnOk P w K mg base (L2N.CX P w) 4 fa fd ["_law_script"] (spD (Zz w K cl) f_law 1) := by
  refine fnD F sc_law (body := b_law) rfl rfl fun cdv A outer s H E hr => ?_
  have tk := L2N.takes_of (X := cxOf (L2N.CX P w) P w K mg base n_law "law" (defScope s_law) fa cdv A outer s H E) (E := E) rfl rfl rfl rfl
  have tw := tw_of tk
  exact (ds_cons (ds_set (i := 1) sc_law.nd (de_callD (ok__law_pool (P := P) (w := w) (base := base) T) (hr.mono (by decide)) T.g__law_pool tw (da_cons (dv 0) (da_cons de_int da_nil)))) (ds_cons (ds_set (i := 2) sc_law.nd (de_add de_int (de_callD (ok__law_number (P := P) (w := w) (base := base) T) (hr.mono (by decide)) T.g__law_number tw (da_cons (dv 1) da_nil)))) (ds_cons (ds_set (i := 3) sc_law.nd (de_add de_int (de_callD (ok__law_number (P := P) (w := w) (base := base) T) (hr.mono (by decide)) T.g__law_number tw (da_cons (dv 1) da_nil)))) (ds_one (ds_ret (de_and (de_callD (ok__law_plain (P := P) (w := w) (base := base) T) (hr.mono (by decide)) T.g__law_plain tw (da_cons (dv 2) (da_cons (dv 3) da_nil))) (de_and (de_callD0 (ok__law_bare (P := P) (w := w) (base := base) T) (hr.mono (by decide)) T.g__law_bare tw) (de_one (de_callD (ok__law_values (P := P) (w := w) (base := base) T) (hr.mono (by decide)) T.g__law_values tw (da_cons (dv 2) (da_cons (dv 3) da_nil)))))))))))
end
end ZZ
set_option Elab.async false
set_option linter.all false
set_option maxRecDepth 100000
set_option maxHeartbeats 4000000
open Lean Parser Tactic in
local macro_rules
  | `(tactic| simp? only [$xs,*] $[$l]?) => do
    let es := xs.getElems.filter fun x => x.raw.getKind == ``simpErase
    let ks := (#[`mkD, `List.map_cons, `List.map_nil, `List.length_cons, `List.length_nil, `Nat.reduceAdd, `Nat.reduceSub, `List.replicate_succ, `List.replicate_zero, `List.cons_append, `List.nil_append, `sSeq, `sSet, `sRet, `sExp, `sDrop, `sIf, `sNil, `sFor, `eBin, `eUn, `eBind, `eV, `eC, `eArgs, `eAnd, `eOr, `eNot, `eIf, `eMth, `eTru, `kBool, `List.getElem?_cons_zero, `List.getElem?_cons_succ, `List.set_cons_zero, `List.set_cons_succ, `if_true, `if_false, `ite_true, `ite_false, `Bool.false_eq_true, `eq_self_iff_true, `reduceIte, `ims, `Option.map_some, `kTup, `kLst, `kLstC, `kCall, `List.all_cons, `List.all_nil, `plainV, `Bool.and_true, `Bool.true_and, `iExp, `iArgs, `itS, `itL, `itT, `itLT, `gN, `gT, `gL, `Option.bind_some, `frz, `ce_get, `ce_get0, `ce_set, `ce_set0, `ce_take, `asL, `asSq, `asIm, `truV, `kTru, `kAdd, `kSub, `kMod, `kLen, `kInt, `kMin, `kMax, `kCmp, `kIsB, `tyL, `tyS, `Option.isSome_some, `Bool.and_self, `beq_self_eq_true, `Option.isSome, `Bool.or_true, `Bool.true_or, `Bool.not_true, `Bool.not_false, `Bool.false_and, `Bool.and_false, `Bool.or_false, `Bool.false_or, `List.cons.injEq, `reduceCtorEq, `false_and, `and_false, `and_self, `and_true, `true_and, `decide_true, `decide_false, `Nat.reduceLeDiff, `LINE] : Array Name).filter fun n => !es.any fun e => e.raw[1].getId == n
    let ls ← ks.mapM fun n => `(simpLemma| $(mkIdent n):ident)
    let ys := (ls.map fun l => l.raw) ++ (xs.getElems.filter fun x => x.raw.getKind != ``simpErase).map fun x => x.raw
    let zs : Syntax.TSepArray [``simpStar, ``simpErase, ``simpLemma] "," := ⟨(mkNullNode (Syntax.mkSep ys (mkAtom ",")).getArgs).getArgs⟩
    `(tactic| simp only [$zs,*] $[$l]?)
namespace ZZ
open PySem PySem.Spec L2
theorem mul_ok_l {i j : Int} (h : i.natAbs < 2 ^ 64) : mulOK i j = true := by
  unfold mulOK
  simp only [h, decide_true, Bool.true_or, Bool.or_true]
theorem mul_ok_r {i j : Int} (h : j.natAbs < 2 ^ 64) : mulOK i j = true := by
  unfold mulOK
  simp only [h, decide_true, Bool.or_true]
def mixI (c t : Int) : Int := (c * 97 * (t + 1) + 31 * t) % 1000003 + (c * 97 * (t + 1) + 31 * t) % 1000003 * ((c * 97 * (t + 1) + 31 * t) % 1000003) / 1013
theorem m_mix' (c t : Int) (ce : List Cell) (h0 : 0 ≤ t) (h1 : t < 2 ^ 60) : f__law_mix [.im (.int c), .im (.int t)] ce = .ok (.im (.int (mixI c t))) ce := by
  have e1 : mulOK c 97 = true := mul_ok_r (by decide)
  have e2 : mulOK (c * 97) (t + 1) = true := mul_ok_r (by omega)
  have e3 : mulOK 31 t = true := mul_ok_l (by decide)
  have e4 : ∀ x : Int, mulOK (x % 1000003) (x % 1000003) = true := fun x => mul_ok_r (by omega)
  unfold f__law_mix b__law_mix
  simp? only [kMul, kDiv, e1, e2, e3, e4, finD, List.take_length, Int.reduceLT]
  rfl
theorem m_draw (k : Nat) (ds : List Int) (b : Int) (ce : List Cell) (hk : ce[k]? = some (.lst (ds.map .int))) (hb : 0 < b) : ∃ r ds', 0 ≤ r ∧ r < b ∧ f__law_draw [.cell k, .im (.int b)] ce = .ok (.im (.int r)) (ce.set k (.lst (List.map D.int ds'))) := by
  unfold f__law_draw b__law_draw
  cases ds with
  | nil =>
    refine ⟨0, [], Int.le_refl _, hb, ?_⟩
    have e : ce.set k (.lst (List.map D.int [])) = ce := by
      refine List.ext_getElem? fun j => ?_
      by_cases hj : k = j
      · subst hj
        rw [List.getElem?_set_self (List.getElem?_eq_some_iff.mp hk).1, hk]
      · rw [List.getElem?_set_ne hj]
    rw [e]
    rw [List.map_nil] at hk
    have hz : ((0 : Nat) : Int) = 0 := rfl
    simp? only [hk, eq_int, hz, finD, List.take_length]
  | cons d ds =>
    refine ⟨d % b, ds, Int.emod_nonneg _ (by omega), Int.emod_lt_of_pos _ hb, ?_⟩
    rw [List.map_cons] at hk
    have e : ¬ (((D.int d :: ds.map D.int).length : Nat) : Int) = 0 := by rw [List.length_cons]; omega
    have e2 : seqIndex? 0 (D.int d :: ds.map D.int).length = some 0 := by
      unfold seqIndex?
      rw [List.length_cons]
      simp
      try omega
    have kp : ∀ sl, kPopAt (.cell k) [.im (.int 0)] sl ce = .ok (.im (.int d)) (ce.set k (.lst (ds.map D.int))) := fun sl => by
      unfold kPopAt
      simp only [hk, e2]
      rw [if_pos ⟨by decide, by decide⟩]
      rfl
    simp only [eTru, mkD, List.map_cons, List.map_nil, Nat.reduceAdd, Nat.reduceSub, List.replicate_succ, List.replicate_zero, List.cons_append, List.nil_append, sSeq, sSet, sRet, sExp, sDrop, sIf, sNil, sFor, eBin, eUn, eBind, eV, eC, eArgs, eAnd, eOr, eNot, eIf, eMth, eTru, kBool, List.getElem?_cons_zero, List.getElem?_cons_succ, List.set_cons_zero, List.set_cons_succ, if_true, if_false, ite_true, ite_false, Bool.false_eq_true, eq_self_iff_true, reduceIte, ims, Option.map_some, kTup, kLst, kLstC, kCall, List.all_cons, List.all_nil, plainV, Bool.and_true, Bool.true_and, iExp, iArgs, itS, itL, itT, itLT, gN, gT, gL, Option.bind_some, frz, ce_get, ce_get0, ce_set, ce_set0, ce_take, asL, asSq, asIm, truV, kTru, kAdd, kSub, kMod, kLen, kInt, kMin, kMax, kCmp, kIsB, tyL, tyS, Option.isSome_some, Bool.and_self, beq_self_eq_true, Option.isSome, Bool.or_true, Bool.true_or, Bool.not_true, Bool.not_false, Bool.false_and, Bool.and_false, Bool.or_false, Bool.false_or, List.cons.injEq, reduceCtorEq, false_and, and_false, and_self, and_true, true_and, decide_true, decide_false, Nat.reduceLeDiff, LINE, hk, eq_int, e, kp, hb, finD, set_take]
def scr (ns : List Int) : D := .wl (ns.map .int)
theorem pool_in (ns : List Int) (many seed : Option Val) (k : Nat) (v : Int) (hk : ns[k]? = some v) (g : Bool) (ce : List Cell) : ∀ (js : List Int) (ρ : Int) (ds : List Int) (x7 : Option Val), (∀ j ∈ js, 0 ≤ j ∧ j < 100) → ds.length + js.length < 16777216 →
    ∃ (ds' : List Int) (ρ' : Int) (y7 : Option Val), forD (gN 7) lp__law_pool_0 (js.map .int) [some (.im (scr ns)), many, some (.cell ce.length), seed, some (.im (.int k)), some (.im (.int ρ)), some (.im (.bl g)), x7] (ce ++ [.lst (ds.map .int)]) =
      .nx [some (.im (scr ns)), many, some (.cell ce.length), seed, some (.im (.int k)), some (.im (.int ρ')), some (.im (.bl g)), y7] (ce ++ [.lst (ds'.map D.int)]) ∧ ds'.length ≤ ds.length + js.length
  | [], ρ, ds, x7, hj, h => ⟨ds, ρ, x7, by rw [List.map_nil, forD], by simp⟩
  | j :: js, ρ, ds, x7, hj, h => by
    rw [List.length_cons] at h
    have hj0 := hj j (List.mem_cons_self ..)
    have ih := fun ρ ds x7 h => pool_in ns many seed k v hk g ce js ρ ds x7 (fun j hm => hj j (List.mem_cons_of_mem _ hm)) h
    have app : ∀ (x : Int) sl, kAppend (.cell ce.length) [.im (.int x)] sl (ce ++ [.lst (ds.map .int)]) = .ok (.im .non) (ce ++ [.lst ((ds ++ [x]).map .int)]) := fun x sl => by
      rw [app_ok (by rw [List.length_map]; show ds.length < 16777216; omega), List.map_append]
      rfl
    have ix : ∀ sl ce, kIx (.im (scr ns)) (.im (.int k)) sl ce = .ok (.im (.int v)) ce := fun sl ce => by
      unfold kIx scr
      have hlt := (List.getElem?_eq_some_iff.mp hk).1
      have e : atI (ns.map D.int) (k : Int) = some (.int v) := by
        unfold atI ixN
        rw [if_pos (by omega), if_pos (by rw [List.length_map]; omega), Int.toNat_natCast, Option.bind_some, List.getElem?_map, hk]
        rfl
      simp only [asSq, e]
    have go : ∀ (ρ2 : Int) (ds2 : List Int), ds2.length ≤ ds.length + 1 → lp__law_pool_0 [some (.im (scr ns)), many, some (.cell ce.length), seed, some (.im (.int k)), some (.im (.int ρ)), some (.im (.bl g)), some (.im (.int j))] (ce ++ [.lst (ds.map .int)]) = .nx [some (.im (scr ns)), many, some (.cell ce.length), seed, some (.im (.int k)), some (.im (.int ρ2)), some (.im (.bl g)), some (.im (.int j))] (ce ++ [.lst (ds2.map .int)]) →
        ∃ (ds' : List Int) (ρ' : Int) (y7 : Option Val), forD (gN 7) lp__law_pool_0 ((j :: js).map .int) [some (.im (scr ns)), many, some (.cell ce.length), seed, some (.im (.int k)), some (.im (.int ρ)), some (.im (.bl g)), x7] (ce ++ [.lst (ds.map .int)]) =
      .nx [some (.im (scr ns)), many, some (.cell ce.length), seed, some (.im (.int k)), some (.im (.int ρ')), some (.im (.bl g)), y7] (ce ++ [.lst (ds'.map D.int)]) ∧ ds'.length ≤ ds.length + (js.length + 1) := fun ρ2 ds2 hd2 hb => by
      obtain ⟨ds', ρ', y7, e, q⟩ := ih ρ2 ds2 (some (.im (.int j))) (by omega)
      refine ⟨ds', ρ', y7, ?_, by omega⟩
      rw [List.map_cons, forD]
      simp only [gN, List.set_cons_zero, List.set_cons_succ, hb]
      exact e
    rw [List.length_cons]
    cases g with
    | true =>
      by_cases hp : 0 < ρ
      · refine go (ρ / 1000003) (ds ++ [ρ % 1000003]) (by simp) ?_
        unfold lp__law_pool_0
        simp? only [kDiv, hp, app, Int.reduceLT]
      · refine go ρ ds (by omega) ?_
        unfold lp__law_pool_0
        simp? only [kDiv, hp, app, Int.reduceLT]
    | false =>
      by_cases hp : j < 6
      · have er := fun ce => m_mix' v j ce hj0.1 (by omega)
        refine go ρ (ds ++ [mixI v j]) (by simp) ?_
        unfold lp__law_pool_0
        simp? only [hp, ix, er, app]
      · refine go ρ ds (by omega) ?_
        unfold lp__law_pool_0
        simp? only [hp]
theorem m_ix (ns : List Int) (k : Nat) (v : Int) (hk : ns[k]? = some v) (sl : Sl) (ce : List Cell) : kIx (.im (scr ns)) (.im (.int k)) sl ce = .ok (.im (.int v)) ce := by
  unfold kIx scr
  have hlt := (List.getElem?_eq_some_iff.mp hk).1
  have e : atI (ns.map D.int) (k : Int) = some (.int v) := by
    unfold atI ixN
    rw [if_pos (by omega), if_pos (by rw [List.length_map]; omega), Int.toNat_natCast, Option.bind_some, List.getElem?_map, hk]
    rfl
  simp only [asSq, e]
theorem pool_out (ns : List Int) (hn : ns.length ≤ 63) (many : Option Val) (ce : List Cell) : ∀ (ks : List Nat) (s : Int) (ds : List Int) (x4 x5 x6 x7 : Option Val), (∀ k ∈ ks, k < ns.length) → ds.length + 60 * ks.length < 16777216 →
    ∃ (ds' : List Int) (s' : Int) (y4 y5 y6 y7 : Option Val), forD (gN 4) lp__law_pool_1 (ks.map fun (k : Nat) => D.int (k : Int)) [some (.im (scr ns)), many, some (.cell ce.length), some (.im (.int s)), x4, x5, x6, x7] (ce ++ [.lst (ds.map .int)]) =
      .nx [some (.im (scr ns)), many, some (.cell ce.length), some (.im (.int s')), y4, y5, y6, y7] (ce ++ [.lst (ds'.map D.int)]) ∧ ds'.length ≤ ds.length + 60 * ks.length
  | [], s, ds, x4, x5, x6, x7, hj, h => ⟨ds, s, x4, x5, x6, x7, by rw [List.map_nil, forD], by simp⟩
  | k :: ks, s, ds, x4, x5, x6, x7, hj, h => by
    rw [List.length_cons] at h
    have hk0 := hj k (List.mem_cons_self ..)
    have hv : ns[k]? = some ns[k] := List.getElem?_eq_getElem hk0
    generalize ns[k] = v at hv
    have kr := rng1 60 (by decide)
    have hpow : ∀ sl ce, kPow (.im (.int 10)) (.im (.int 18)) sl ce = .ok (.im (.int (10 ^ 18))) ce := fun sl ce => by
      unfold kPow
      simp only []
      rw [if_pos (by decide)]
      rfl
    have hmul : mulOK v ((k : Int) + 1) = true := mul_ok_r (by omega)
    obtain ⟨ds1, ρ1, y7, e1, q1⟩ := pool_in ns many (some (.im (.int ((s + v * ((k : Int) + 1)) % 1000003)))) k v hv (decide (10 ^ 18 ≤ (if v < 0 then -v else v))) ce ((List.range 60).map fun (i : Nat) => (i : Int)) (if v < 0 then -v else v) ds x7 (fun j hm => by
      obtain ⟨i, hi, rfl⟩ := List.mem_map.mp hm
      rw [List.mem_range] at hi
      omega) (by rw [List.length_map, List.length_range]; omega)
    rw [List.map_map] at e1
    rw [List.length_map, List.length_range] at q1
    have hf : (D.int ∘ fun (i : Nat) => (i : Int)) = fun (i : Nat) => D.int (i : Int) := rfl
    rw [hf] at e1
    obtain ⟨ds', s', z4, z5, z6, z7, e, q⟩ := pool_out ns hn many ce ks ((s + v * ((k : Int) + 1)) % 1000003) ds1 (some (.im (.int k))) (some (.im (.int ρ1))) (some (.im (.bl (decide (10 ^ 18 ≤ (if v < 0 then -v else v)))))) y7 (fun k hm => hj k (List.mem_cons_of_mem _ hm)) (by omega)
    refine ⟨ds', s', z4, z5, z6, z7, ?_, by rw [List.length_cons]; omega⟩
    rw [List.map_cons, forD]
    simp only [gN, List.set_cons_zero, List.set_cons_succ]
    rw [← e]
    unfold lp__law_pool_1
    have kr' : kRng1 [.im (.int 60)] = some ((List.range 60).map fun (i : Nat) => D.int (i : Int)) := kr
    simp? only [kMul, kAbs, m_ix ns k v hv, hmul, hpow, kr', e1, Int.reduceLT]
theorem pool_fill (many : Nat) (hm : many ≤ 1000) (a0 a4 a5 a6 : Option Val) (s : Int) (ce : List Cell) : ∀ (js : List D) (ds : List Int) (x7 : Option Val), ds.length + js.length < 16777216 →
    ∃ (ds' : List Int) (y7 : Option Val), forD (gN 7) lp__law_pool_2 js [a0, some (.im (.int many)), some (.cell ce.length), some (.im (.int s)), a4, a5, a6, x7] (ce ++ [.lst (ds.map .int)]) =
      .nx [a0, some (.im (.int many)), some (.cell ce.length), some (.im (.int s)), a4, a5, a6, y7] (ce ++ [.lst (ds'.map D.int)])
  | [], ds, x7, h => ⟨ds, x7, by rw [forD]⟩
  | j :: js, ds, x7, h => by
    rw [List.length_cons] at h
    have app : ∀ (x : Int) sl, kAppend (.cell ce.length) [.im (.int x)] sl (ce ++ [.lst (ds.map .int)]) = .ok (.im .non) (ce ++ [.lst ((ds ++ [x]).map .int)]) := fun x sl => by
      rw [app_ok (by rw [List.length_map]; show ds.length < 16777216; omega), List.map_append]
      rfl
    rw [forD]
    simp only [gN, List.set_cons_zero, List.set_cons_succ]
    by_cases hl : ds.length < many
    · obtain ⟨ds', y7, e⟩ := pool_fill many hm a0 a4 a5 a6 s ce js (ds ++ [mixI s ds.length]) (some (.im j)) (by rw [List.length_append, List.length_singleton]; omega)
      refine ⟨ds', y7, ?_⟩
      rw [← e]
      have hl' : (ds.length : Int) < (many : Int) := by omega
      have er := fun ce => m_mix' s ds.length ce (by omega) (by omega)
      unfold lp__law_pool_2
      simp? only [List.length_map, hl', er, app]
    · obtain ⟨ds', y7, e⟩ := pool_fill many hm a0 a4 a5 a6 s ce js ds (some (.im j)) (by omega)
      refine ⟨ds', y7, ?_⟩
      rw [← e]
      have hl' : ¬ (ds.length : Int) < (many : Int) := by omega
      unfold lp__law_pool_2
      simp? only [List.length_map, hl']
theorem m_pool (ns : List Int) (hn : ns.length ≤ 63) (many : Nat) (hm : many ≤ 1000) (ce : List Cell) : ∃ ds : List Int, f__law_pool [.im (scr ns), .im (.int many)] ce = .ok (.cell ce.length) (ce ++ [.lst (ds.map .int)]) := by
  obtain ⟨ds1, s1, y4, y5, y6, y7, e1, q1⟩ := pool_out ns hn (some (.im (.int many))) ce (List.range ns.length) 0 [] none none none none (fun k h => List.mem_range.mp h) (by rw [List.length_range]; simp; omega)
  rw [List.length_range, List.length_nil] at q1
  obtain ⟨ds2, z7, e2⟩ := pool_fill many hm (some (.im (scr ns))) y4 y5 y6 s1 ce ((List.range many).map fun (i : Nat) => D.int (i : Int)) ds1 y7 (by rw [List.length_map, List.length_range]; omega)
  refine ⟨ds2, ?_⟩
  have hmin : ∀ (sl : Sl) (ce : List Cell), kMin [.im (.int (ns.length : Int)), .im (.int 63)] sl ce = .ok (.im (.int (ns.length : Int))) ce := fun sl ce => by
    unfold kMin
    have : ¬ (63 : Int) < (ns.length : Int) := by omega
    simp only [this, if_false, eC]
  have k1 := rng1 ns.length (by omega)
  have k2 := rng1 many (by omega)
  rw [List.map_nil] at e1
  have hlen : ∀ (sl : Sl) (ce : List Cell), kLen [.im (scr ns)] sl ce = .ok (.im (.int (ns.length : Int))) ce := fun sl ce => by
    unfold kLen scr
    simp only [asSq, List.length_map]
  unfold f__law_pool b__law_pool
  simp? only [-kLen, -kMin, hlen, hmin, k1, k2, e1, e2, finD, Nat.lt_irrefl]
end ZZ
set_option Elab.async false
set_option linter.all false
set_option maxRecDepth 100000
set_option maxHeartbeats 4000000
namespace ZZ
open PySem PySem.Spec L2
section
variable {sl : Sl} {ce : List Cell}
theorem set_get {k : Nat} {c c2 : Cell} (h : ce[k]? = some c) : (ce.set k c2)[k]? = some c2 := by
  rw [List.getElem?_set_self (List.getElem?_eq_some_iff.mp h).1]
theorem num_loop (k : Nat) : ∀ (items : List D) (n : Int) (ds : List Int) (ce : List Cell) (x1 x3 : Option Val), ce[k]? = some (.lst (ds.map .int)) →
    ∃ n' ds' y3, forD (gN 3) lp__law_number_0 items [some (.cell k), x1, some (.im (.int n)), x3] ce = .nx [some (.cell k), x1, some (.im (.int n')), y3] (ce.set k (.lst (List.map D.int ds')))
  | [], n, ds, ce, x1, x3, hk => ⟨n, ds, x3, by rw [forD, set_same hk]⟩
  | d :: items, n, ds, ce, x1, x3, hk => by
    obtain ⟨r, ds1, b, c, e⟩ := m_draw k ds 1000003 ce hk (by decide)
    obtain ⟨n', ds', y3, e2⟩ := num_loop k items (n * 1000003 + r) ds1 (ce.set k (.lst (ds1.map .int))) x1 (some (.im d)) (set_get hk)
    refine ⟨n', ds', y3, ?_⟩
    rw [List.set_set] at e2
    have mk : mulOK n 1000003 = true := mul_ok_r (by decide)
    have ml : ∀ sl ce, kMul (.im (.int n)) (.im (.int 1000003)) sl ce = .ok (.im (.int (n * 1000003))) ce := fun sl ce => by
      unfold kMul
      simp only [mk, if_true]
    rw [← e2, forD]
    simp only [gN, List.set_cons_zero, List.set_cons_succ]
    unfold lp__law_number_0
    simp? only [-kMul, ml, e]
theorem m_number (k : Nat) (ds : List Int) (ce : List Cell) (hk : ce[k]? = some (.lst (ds.map .int))) : ∃ n ds', 0 ≤ n ∧ n < 1000000000000000000000000000000 ∧ f__law_number [.cell k] ce = .ok (.im (.int n)) (ce.set k (.lst (List.map D.int ds'))) := by
  obtain ⟨r1, ds1, b1, c1, e1⟩ := m_draw k ds 8 ce hk (by decide)
  obtain ⟨r2, ds2, b2, c2, e2⟩ := m_draw k ds1 5 (ce.set k (.lst (ds1.map .int))) (set_get hk) (by decide)
  rw [List.set_set] at e2
  have h2 : (ce.set k (.lst (ds2.map .int)))[k]? = some (.lst (ds2.map .int)) := set_get hk
  have k5 : kRng1 [.im (.int 5)] = some [.int 0, .int 1, .int 2, .int 3, .int 4] := rng1 5 (by decide)
  have pw : ∀ sl ce, kPow (.im (.int 10)) (.im (.int 30)) sl ce = .ok (.im (.int 1000000000000000000000000000000)) ce := fun _ _ => rfl
  have md : ∀ (n : Int) sl ce, kMod (.im (.int n)) (.im (.int 1000000000000000000000000000000)) sl ce = .ok (.im (.int (n % 1000000000000000000000000000000))) ce := fun n sl ce => by
    unfold kMod
    simp
  have mb : ∀ n : Int, 0 ≤ n % 1000000000000000000000000000000 ∧ n % 1000000000000000000000000000000 < 1000000000000000000000000000000 := fun n => ⟨Int.emod_nonneg _ (by decide), Int.emod_lt_of_pos _ (by decide)⟩
  have hn : k < ce.length := (List.getElem?_eq_some_iff.mp hk).1
  by_cases h4 : r1 = 4
  · obtain ⟨n', ds', y3, e3⟩ := num_loop k [.int 0, .int 1, .int 2, .int 3, .int 4] r2 ds2 (ce.set k (.lst (ds2.map .int))) (some (.im (.int r1))) none h2
    rw [List.set_set, h4] at e3
    refine ⟨n' % 1000000000000000000000000000000, ds', (mb n').1, (mb n').2, ?_⟩
    unfold f__law_number b__law_number
    simp? only [-kMod, e1, h4, e2, eq_int, k5, e3, pw, md, finD, set_take]
  · refine ⟨r2 % 1000000000000000000000000000000, ds2, (mb r2).1, (mb r2).2, ?_⟩
    unfold f__law_number b__law_number
    simp? only [-kMod, e1, h4, e2, eq_int, pw, md, finD, set_take]
end
end ZZ
set_option Elab.async false
set_option linter.all false
set_option maxRecDepth 100000
set_option maxHeartbeats 4000000
namespace ZZ
open PySem PySem.Spec L2
section
variable {sl : Sl} {ce : List Cell}
theorem lc_mapC {β : Type} {own : List Nat} {fi : DI} {g : GD} {f : DE} (bs : List β) (F φ : β → D) (hi : fi sl ce = .ok (bs.map F) ce) (hl : bs.length < 16777216)
    (h : ∀ b ∈ bs, ∀ acc : List D, ∃ sl1, g (F b) (wipeD sl own) = some sl1 ∧ f sl1 (ce ++ [.lst acc]) = .ok (.im (φ b)) (ce ++ [.lst acc])) :
    eLcC own fi g (eC (.bl true)) f sl ce = .ok (.cell ce.length) (ce ++ [.lst (bs.map φ)]) := by
  unfold eLcC
  simp only [hi]
  rw [lcD_map ce F φ (fun _ => true) bs [] (by rw [List.length_nil]; omega) (fun d hd acc => by
    obtain ⟨sl1, h1, h2⟩ := h d hd acc
    exact ⟨sl1, h1, rfl, fun _ => h2⟩), List.nil_append, List.filter_eq_self.mpr (fun _ _ => rfl)]
end
end ZZ
set_option Elab.async false
set_option linter.all false
set_option maxRecDepth 100000
set_option maxHeartbeats 4000000
namespace ZZ
open PySem PySem.Spec L2
section
variable {ce : List Cell}
/-- what is told of the class c -/
def kinB (c : Nat) : List Bool := [x_BadCore c, x_BadLayer c, x_BadJoint c, x_NoLayer c, x_NoJoint c, x_BadText c, x_BadRecord c, x_Unlike c, x_NotFitting c, x_NoRecord c, x_Clash c, x_BadNumber c, x_NoContrary c, x_NoSaying c]
def kinL (c : Nat) : List D := ((List.range 14).filter fun k => (kinB c).getD k false).map fun k => .int (k : Nat)
def kinD (c : Nat) : D := .lst (kinL c)
theorem isV_at {T : Nat → Bool} {c : Nat} {ds : List D} {sl : Sl} (hc : c < 14) : kIsV 14 T (.exn (1000 + c) ds) sl ce = .ok (.im (.bl (T c))) ce := by
  unfold kIsV
  simp only [Nat.add_sub_cancel_left]
  rw [if_pos ⟨by omega, hc⟩]
theorem silt_all : ∀ c, c < 14 → x_SiltError c = true ∧ x_ValueError c = true := by decide
theorem kin_ix {c k : Nat} (hk : k < 14) {sl : Sl} {cs : List Cell} (h : cs[ce.length]? = some (.lst ((kinB c).map .bl))) : kIx (.cell ce.length) (.im (.int (k : Nat))) sl cs = .ok (.im (.bl ((kinB c).getD k false))) cs := by
  have hl : k < (kinB c).length := hk
  have e : atI ((kinB c).map D.bl) (k : Nat) = some (.bl ((kinB c).getD k false)) := by
    unfold atI ixN
    rw [if_pos (by omega), if_pos (by rw [List.length_map]; omega), Int.toNat_natCast, Option.bind_some, List.getElem?_map, List.getElem?_eq_getElem hl]
    simp [List.getD, List.getElem?_eq_getElem hl]
  unfold kIx
  simp only [asSq, asL, h, e]
theorem m_kin (c : Nat) (hc : c < 14) (ds : List D) : f__law_kin [.exn (1000 + c) ds] ce = .ok (.im (kinD c)) ce := by
  have hx : ∀ (T : Nat → Bool) sl ce, kIsV 14 T (.exn (1000 + c) ds) sl ce = .ok (.im (.bl (T c))) ce := fun T sl ce => isV_at hc
  obtain ⟨h1, h2⟩ := silt_all c hc
  have lc : ∀ a2, eSettle (eLcC [2] (iArgs [(eC (.int 14))] kRng1) (gN 2) (eTru (eBin kIx (eV 1) (eV 2))) el__law_kin_0) [some (.exn (1000 + c) ds), some (.cell ce.length), a2] (ce ++ [.lst ((kinB c).map .bl)]) = .ok (.im (kinD c)) (ce ++ [.lst ((kinB c).map .bl)]) := fun a2 => by
    refine lc_filter (List.range 14) (fun k => .int (k : Nat)) (fun k => .int (k : Nat)) (fun k => (kinB c).getD k false) ?_ (by decide) fun k hk acc => ⟨_, rfl, ?_, fun _ => rfl⟩
    · have h14 : kRng1 [.im (.int 14)] = some ((List.range 14).map fun (i : Nat) => D.int (i : Int)) := rng1 14 (by decide)
      simp? only [h14]
    · have hi : ∀ sl, kIx (.cell ce.length) (.im (.int (k : Nat))) sl (ce ++ [.lst ((kinB c).map .bl)] ++ [.lst acc]) = .ok (.im (.bl ((kinB c).getD k false))) (ce ++ [.lst ((kinB c).map .bl)] ++ [.lst acc]) := fun sl => kin_ix (List.mem_range.mp hk) (by
        rw [List.append_assoc, ce_get0]
        rfl)
      simp? only [wipeD, hi]
  have hk : kinB c = [x_BadCore c, x_BadLayer c, x_BadJoint c, x_NoLayer c, x_NoJoint c, x_BadText c, x_BadRecord c, x_Unlike c, x_NotFitting c, x_NoRecord c, x_Clash c, x_BadNumber c, x_NoContrary c, x_NoSaying c] := rfl
  rw [hk] at lc
  unfold f__law_kin b__law_kin
  generalize eSettle (eLcC [2] (iArgs [(eC (.int 14))] kRng1) (gN 2) (eTru (eBin kIx (eV 1) (eV 2))) el__law_kin_0) = G at lc ⊢
  simp only [List.map_cons, List.map_nil] at lc
  simp? only [hx, h1, h2, kAppend, lc, finD, show (3 < 16777216) = True from by decide, show (4 < 16777216) = True from by decide, show (5 < 16777216) = True from by decide, show (6 < 16777216) = True from by decide, show (7 < 16777216) = True from by decide, show (8 < 16777216) = True from by decide, show (9 < 16777216) = True from by decide, show (10 < 16777216) = True from by decide, show (11 < 16777216) = True from by decide, show (12 < 16777216) = True from by decide, show (13 < 16777216) = True from by decide]
theorem m_whole (n : Int) : f__law_whole [.im (.int n)] ce = .ok (.im (.bl true)) ce := by
  have k1 : ∀ sl ce, kIsi i_int (.im (.int n)) sl ce = .ok (.im (.bl true)) ce := fun _ _ => rfl
  have k2 : ∀ sl ce, kIsi i_bool (.im (.int n)) sl ce = .ok (.im (.bl false)) ce := fun _ _ => rfl
  unfold f__law_whole b__law_whole
  simp? only [k1, k2, finD, List.take_length]
theorem pv_x (c : Nat) (ds : List D) : plainV (.exn (1000 + c) ds) = true := by
  show decide (1000 ≤ 1000 + c) = true
  exact decide_eq_true (by omega)
theorem pv_d (d : D) : plainV (.im d) = true := rfl
theorem m_bare : f__law_bare [] ce = .ok (.im (.bl true)) ce := by
  have k := fun c hc (ce : List Cell) => m_kin (ce := ce) c hc []
  have k0 := k e_BadCore (by decide)
  have k7 := k e_Unlike (by decide)
  have k8 := k e_NotFitting (by decide)
  have k9 := k e_NoRecord (by decide)
  have k12 := k e_NoContrary (by decide)
  have eq : ∀ sl ce, kEqG false (.im (.lst [kinD e_BadCore, kinD e_Unlike, kinD e_NotFitting, kinD e_NoRecord, kinD e_NoContrary])) (.im (.lst [.lst [.int 0], .lst [.int 7], .lst [.int 8], .lst [.int 9], .lst [.int 12]])) sl ce = .ok (.im (.bl true)) ce := fun sl ce => by
    rw [eq_any (neg := false) rfl rfl (by decide +kernel) (by decide +kernel)]
    rfl
  unfold f__law_bare b__law_bare
  simp? only [-plainV, -Nat.reduceAdd, pv_x, pv_d, eXb, k0, k7, k8, k9, k12, eq, finD, List.take_length, show (3 + 2 ≤ 16777216) = True from by decide]
theorem m_values (n m : Int) : f__law_values [.im (.int n), .im (.int m)] ce = .ok (.im (.bl true)) ce := by
  have hw := fun (i : Int) ce => m_whole (ce := ce) i
  have x1 : ∀ (c : Nat) (h : c ∈ [1, 2, 3, 4, 6, 13]) (d : D) sl ce, kXfV [1, 2, 3, 4, 6, 13] 0 (.exn (1000 + c) [d]) sl ce = .ok (.im d) ce := fun c h d sl ce => by
    unfold kXfV
    simp only [Nat.add_sub_cancel_left]
    rw [if_pos ⟨by omega, h⟩]
    rfl
  have a1 := x1 e_BadLayer (by decide)
  have a2 := x1 e_BadJoint (by decide)
  have a3 := x1 e_NoLayer (by decide)
  have a4 := x1 e_NoJoint (by decide)
  have a6 := x1 e_BadRecord (by decide)
  have a13 := x1 e_NoSaying (by decide)
  have a5 : ∀ (d : D) sl ce, kXfV [5] 0 (.exn (1000 + e_BadText) [d]) sl ce = .ok (.im d) ce := fun d sl ce => rfl
  have a11 : ∀ (d : D) sl ce, kXfV [11] 0 (.exn (1000 + e_BadNumber) [d]) sl ce = .ok (.im d) ce := fun d sl ce => rfl
  have a10 : ∀ (d d' : D) sl ce, kXfV [10] 1 (.exn (1000 + e_Clash) [d', d]) sl ce = .ok (.im d) ce := fun d d' sl ce => rfl
  have a10' : ∀ (d d' : D) sl ce, kXfV [10] 0 (.exn (1000 + e_Clash) [d', d]) sl ce = .ok (.im d') ce := fun d d' sl ce => rfl
  have ne : ∀ sl ce, kEqG true (.im (.int n)) (.im (.int n)) sl ce = .ok (.im (.bl false)) ce := fun sl ce => by
    rw [eq_any (neg := true) rfl rfl rfl rfl]
    simp [eqD]
  have eq : ∀ sl ce, kEqG false (.im (.int m)) (.im (.int m)) sl ce = .ok (.im (.bl true)) ce := fun sl ce => by
    rw [eq_any (neg := false) rfl rfl rfl rfl]
    simp [eqD]
  have isn : ∀ sl ce, kIsN false (.im .non) (.im .non) sl ce = .ok (.im (.bl true)) ce := fun _ _ => rfl
  have lp : ∀ (k : Nat) (a2 a3 a4 : Option Val) (ce : List Cell), ∃ b3, forD (gN 3) lp__law_values_0 (List.replicate k (D.int n)) [some (.im (.int n)), some (.im (.int m)), a2, a3, a4] ce = .nx [some (.im (.int n)), some (.im (.int m)), a2, b3, a4] ce := fun k => by
    induction k with
    | zero => exact fun a2 a3 a4 ce => ⟨a3, rfl⟩
    | succ k ih =>
      intro a2 a3 a4 ce
      obtain ⟨b3, e⟩ := ih a2 (some (.im (.int n))) a4 ce
      refine ⟨b3, ?_⟩
      rw [List.replicate_succ, forD, ← e]
      unfold lp__law_values_0
      simp? only [-List.replicate_succ, hw, ne]
  obtain ⟨b3, e⟩ := lp 9 (some (.im (.lst (List.replicate 9 (D.int n))))) none none ce
  unfold f__law_values b__law_values
  simp? only [-plainV, -Nat.reduceAdd, pv_x, pv_d, kXm, List.reverse_cons, List.reverse_nil, a1, a2, a3, a4, a5, a6, a13, a11, a10, show (3 + 3 ≤ 16777216) = True from by decide, show (6 + 3 ≤ 16777216) = True from by decide, List.replicate_succ] at e ⊢
  simp? only [-plainV, -Nat.reduceAdd, pv_x, pv_d, kXm, List.reverse_cons, List.reverse_nil, e, a10, a10', isn, hw, eq, finD, List.take_length]
end
end ZZ
set_option Elab.async false
set_option linter.all false
set_option maxRecDepth 100000
set_option maxHeartbeats 4000000
namespace ZZ
open PySem PySem.Spec L2
section
variable {ce : List Cell}
theorem m_plain (n m : Int) : f__law_plain [.im (.int n), .im (.int m)] ce = .ok (.im (.bl true)) ce := by
  have k := fun c hc (ds : List D) (ce : List Cell) => m_kin (ce := ce) c hc ds
  have k0 := k e_BadCore (by decide)
  have k1 := k e_BadLayer (by decide)
  have k2 := k e_BadJoint (by decide)
  have k3 := k e_NoLayer (by decide)
  have k4 := k e_NoJoint (by decide)
  have k5 := k e_BadText (by decide)
  have k6 := k e_BadRecord (by decide)
  have k7 := k e_Unlike (by decide)
  have k8 := k e_NotFitting (by decide)
  have k9 := k e_NoRecord (by decide)
  have k10 := k e_Clash (by decide)
  have k11 := k e_BadNumber (by decide)
  have k12 := k e_NoContrary (by decide)
  have k13 := k e_NoSaying (by decide)
  have lc : ∀ (sl : Sl) (cs : List Cell), sl.length = 5 → eLcC [4] (iArgs [(eC (.int 14))] kRng1) (gN 4) (eC (.bl true)) el__law_plain_0 sl cs = .ok (.cell cs.length) (cs ++ [.lst ((List.range 14).map fun k => .lst [.int (k : Nat)])]) := fun sl cs hs => by
    refine lc_mapC (List.range 14) (fun k => .int (k : Nat)) (fun k => .lst [.int (k : Nat)]) ?_ (by decide) fun k hk acc => ⟨_, rfl, ?_⟩
    · have h14 : kRng1 [.im (.int 14)] = some ((List.range 14).map fun (i : Nat) => D.int (i : Int)) := rng1 14 (by decide)
      simp? only [h14]
    · obtain ⟨a, b, c, d, e, rfl⟩ : ∃ a b c d e, sl = [a, b, c, d, e] := by
        rcases sl with _ | ⟨a, _ | ⟨b, _ | ⟨c, _ | ⟨d, _ | ⟨e, _ | ⟨z, zs⟩⟩⟩⟩⟩⟩ <;> first | exact ⟨_, _, _, _, _, rfl⟩ | simp at hs
      unfold el__law_plain_0
      simp? only [wipeD]
  have eq : ∀ (A B C E F : Cell) sl, kEqG false (.cell (ce.length + 5)) (.cell (ce.length + 6)) sl (ce ++ [A, B, C, E, F, .lst [kinD e_BadCore, kinD e_BadLayer, kinD e_BadJoint, kinD e_NoLayer, kinD e_NoJoint, kinD e_BadText, kinD e_BadRecord, kinD e_Unlike, kinD e_NotFitting, kinD e_NoRecord, kinD e_Clash, kinD e_BadNumber, kinD e_NoContrary, kinD e_NoSaying], .lst [.lst [.int 0], .lst [.int 0, .int 1], .lst [.int 0, .int 2], .lst [.int 3], .lst [.int 4], .lst [.int 5], .lst [.int 6], .lst [.int 7], .lst [.int 8], .lst [.int 9], .lst [.int 9, .int 10], .lst [.int 11], .lst [.int 12], .lst [.int 13]]]) = .ok (.im (.bl true)) (ce ++ [A, B, C, E, F, .lst [kinD e_BadCore, kinD e_BadLayer, kinD e_BadJoint, kinD e_NoLayer, kinD e_NoJoint, kinD e_BadText, kinD e_BadRecord, kinD e_Unlike, kinD e_NotFitting, kinD e_NoRecord, kinD e_Clash, kinD e_BadNumber, kinD e_NoContrary, kinD e_NoSaying], .lst [.lst [.int 0], .lst [.int 0, .int 1], .lst [.int 0, .int 2], .lst [.int 3], .lst [.int 4], .lst [.int 5], .lst [.int 6], .lst [.int 7], .lst [.int 8], .lst [.int 9], .lst [.int 9, .int 10], .lst [.int 11], .lst [.int 12], .lst [.int 13]]]) := fun A B C E F sl => by
    rw [eq_any (neg := false) (d := .lst [kinD e_BadCore, kinD e_BadLayer, kinD e_BadJoint, kinD e_NoLayer, kinD e_NoJoint, kinD e_BadText, kinD e_BadRecord, kinD e_Unlike, kinD e_NotFitting, kinD e_NoRecord, kinD e_Clash, kinD e_BadNumber, kinD e_NoContrary, kinD e_NoSaying]) (e := .lst [.lst [.int 0], .lst [.int 0, .int 1], .lst [.int 0, .int 2], .lst [.int 3], .lst [.int 4], .lst [.int 5], .lst [.int 6], .lst [.int 7], .lst [.int 8], .lst [.int 9], .lst [.int 9, .int 10], .lst [.int 11], .lst [.int 12], .lst [.int 13]]) (by simp only [asIm, ce_get, List.getElem?_cons_succ, List.getElem?_cons_zero]) (by simp only [asIm, ce_get, List.getElem?_cons_succ, List.getElem?_cons_zero]) (by decide +kernel) (by decide +kernel)]
    rfl
  have L0 : ((List.range 14).map fun k => D.lst [.int (k : Nat)]) = [.lst [.int 0], .lst [.int 1], .lst [.int 2], .lst [.int 3], .lst [.int 4], .lst [.int 5], .lst [.int 6], .lst [.int 7], .lst [.int 8], .lst [.int 9], .lst [.int 10], .lst [.int 11], .lst [.int 12], .lst [.int 13]] := rfl
  have i1 : ixN 14 1 = some 1 := rfl
  have i2 : ixN 14 2 = some 2 := rfl
  have i10 : ixN 14 10 = some 10 := rfl
  unfold f__law_plain b__law_plain
  generalize eLcC [4] (iArgs [(eC (.int 14))] kRng1) (gN 4) (eC (.bl true)) el__law_plain_0 = G at lc ⊢
  have lc' := fun (a b c d e : Option Val) cs => lc [a, b, c, d, e] cs rfl
  simp only [L0] at lc'
  simp? only [-plainV, show (13 < 16777216) = True from by decide, pv_x, pv_d, kXm, kXb, k0, k1, k2, k3, k4, k5, k6, k7, k8, k9, k10, k11, k12, k13, kAddC, kAppend, lc', eq, sSetIx, i1, i2, i10, finD, List.append_assoc, List.length_append, List.take_length]
end
theorem law_true : ∀ ns : List Int, ns.length ≤ 63 → ∃ ce', f_law [.im (.wl (ns.map .int))] [] = .ok (.im (.bl true)) ce' := by
  intro ns hl
  obtain ⟨ds0, e0⟩ := m_pool ns hl 40 (by decide) []
  have ne : ([] : List Cell).length = 0 := rfl
  simp only [ne, List.nil_append] at e0
  have e40 : ((40 : Nat) : Int) = 40 := rfl
  rw [e40] at e0
  obtain ⟨n1, ds1, b1, c1, e1⟩ := m_number 0 ds0 [.lst (ds0.map .int)] rfl
  obtain ⟨n2, ds2, b2, c2, e2⟩ := m_number 0 ds1 [.lst (ds1.map .int)] rfl
  simp only [List.set_cons_zero] at e1 e2
  have mp := fun n m ce => m_plain (ce := ce) n m
  have mb := fun ce => m_bare (ce := ce)
  have mv := fun n m ce => m_values (ce := ce) n m
  have es : D.wl (ns.map .int) = scr ns := rfl
  have ad : ∀ (n : Int) sl ce, kAdd (.im (.int 1)) (.im (.int n)) sl ce = .ok (.im (.int (1 + n))) ce := fun _ _ _ => rfl
  rw [es]
  refine ⟨[.lst (ds2.map .int)].take 0, ?_⟩
  unfold f_law b_law
  simp? only [-kAdd, e0, e1, e2, ad, mp, mb, mv, finD, List.take_zero]
end ZZ
set_option Elab.async false
set_option linter.all false
set_option maxRecDepth 100000
set_option maxHeartbeats 4000000
namespace ZZ
open PySem PySem.Spec L2 L2H
open ZH
/-- the law's own promise -/
def spLaw (K : PySem.W.Frag) : Sp := fun vs H Q _ => ∃ (a : Addr) (ns : List Int), vs = [.ref a] ∧ SqL K H a (ns.map V.int) ∧ ns.length ≤ 63 ∧ ∀ H', Q (.bl true) H'
theorem ints_reps {Z : Zx} {F : Hp} : ∀ ns : List Int, Reps Z F (ns.map D.int) (ns.map V.int)
  | [] => reps_nil
  | n :: ns => reps_cons (by unfold Rep; rfl) (ints_reps ns)
theorem sp_law {w : World} {K : PySem.W.Frag} {cl : Nat → Addr} {vs : List V} {H : Hp} {Q : VK} {E : XK} (h : spLaw K vs H Q E) : spD (Zz w K cl) f_law 1 vs H Q E := by
  obtain ⟨a, ns, rfl, hS, hl, k⟩ := h
  obtain ⟨ce', he⟩ := law_true ns hl
  refine ⟨[], H, [], [.im (.wl (ns.map .int))], ⟨Same.refl _, rfl, List.nodup_nil, fun k a c h1 h2 => by simp at h1⟩, ⟨_, _, rfl, ?_, rfl⟩, rfl, ?_⟩
  · unfold VRep Rep
    exact ⟨a, _, rfl, hS, ints_reps ns⟩
  · rw [he]
    intro A' F' H' x _ _ _ r
    rw [rep_bl r]
    exact k H'
theorem tx_mk {w : World} {K : PySem.W.Frag} {h : Heap} {mg : Str → Option Value} (X : K.In h) (G : h.Ns mainGlobals mg) (cZ : SaysZ fbs fnl tbs w K) : Tx PySem.Challenge.pw_siltmeet_k41_errors_created w K mg (fun n => [265, 272, 279, 286, 293, 298, 303, 310, 317, 324, 53, 72, 91, 110, 129, 148, 203, 222, 253].getD n 0) (fun n => [37, 56, 75, 94, 113, 132, 151, 163, 175, 187, 206, 225, 237, 256, 24].getD n 0) := {
    b_ValueError := PySem.W.mg_none_of X G (cZ.dec (p := PySem.W.nsIn K mainGlobals "ValueError" = some none) (i := 0) (j := 0) rfl rfl rfl),
    b_abs := PySem.W.mg_none_of X G (cZ.dec (p := PySem.W.nsIn K mainGlobals "abs" = some none) (i := 0) (j := 1) rfl rfl rfl),
    b_bool := PySem.W.mg_none_of X G (cZ.dec (p := PySem.W.nsIn K mainGlobals "bool" = some none) (i := 0) (j := 2) rfl rfl rfl),
    b_int := PySem.W.mg_none_of X G (cZ.dec (p := PySem.W.nsIn K mainGlobals "int" = some none) (i := 0) (j := 3) rfl rfl rfl),
    b_isinstance := PySem.W.mg_none_of X G (cZ.dec (p := PySem.W.nsIn K mainGlobals "isinstance" = some none) (i := 0) (j := 4) rfl rfl rfl),
    b_len := PySem.W.mg_none_of X G (cZ.dec (p := PySem.W.nsIn K mainGlobals "len" = some none) (i := 0) (j := 5) rfl rfl rfl),
    b_min := PySem.W.mg_none_of X G (cZ.dec (p := PySem.W.nsIn K mainGlobals "min" = some none) (i := 0) (j := 6) rfl rfl rfl),
    b_range := PySem.W.mg_none_of X G (cZ.dec (p := PySem.W.nsIn K mainGlobals "range" = some none) (i := 0) (j := 7) rfl rfl rfl),
    f__law_mix := (let ⟨_, F⟩ := fun_z (cZ.fns (i := 0) (d := dz_0) rfl) rfl rfl; ⟨_, F, F.binds (ps := ["_law_cell", "_law_turn"]) fun _ _ _ _ _ _ us hl => match us, hl with | [_, _], _ => rfl⟩),
    g__law_mix := PySem.W.mg_of X G (cZ.dec (p := PySem.W.nsIn K mainGlobals "_law_mix" = some (some (.ref 265))) (i := 0) (j := 8) rfl rfl rfl),
    f__law_pool := (let ⟨_, F⟩ := fun_z (cZ.fns (i := 1) (d := dz_1) rfl) rfl rfl; ⟨_, F, F.binds (ps := ["_law_script", "_law_many"]) fun _ _ _ _ _ _ us hl => match us, hl with | [_, _], _ => rfl⟩),
    g__law_pool := PySem.W.mg_of X G (cZ.dec (p := PySem.W.nsIn K mainGlobals "_law_pool" = some (some (.ref 272))) (i := 0) (j := 9) rfl rfl rfl),
    f__law_draw := (let ⟨_, F⟩ := fun_z (cZ.fns (i := 2) (d := dz_2) rfl) rfl rfl; ⟨_, F, F.binds (ps := ["_law_pool_here", "_law_bound"]) fun _ _ _ _ _ _ us hl => match us, hl with | [_, _], _ => rfl⟩),
    g__law_draw := PySem.W.mg_of X G (cZ.dec (p := PySem.W.nsIn K mainGlobals "_law_draw" = some (some (.ref 279))) (i := 0) (j := 10) rfl rfl rfl),
    f__law_number := (let ⟨_, F⟩ := fun_z (cZ.fns (i := 3) (d := dz_3) rfl) rfl rfl; ⟨_, F, F.binds (ps := ["_law_pool_here"]) fun _ _ _ _ _ _ us hl => match us, hl with | [_], _ => rfl⟩),
    g__law_number := PySem.W.mg_of X G (cZ.dec (p := PySem.W.nsIn K mainGlobals "_law_number" = some (some (.ref 286))) (i := 0) (j := 11) rfl rfl rfl),
    f__law_whole := (let ⟨_, F⟩ := fun_z (cZ.fns (i := 4) (d := dz_4) rfl) rfl rfl; ⟨_, F, F.binds (ps := ["_law_number_here"]) fun _ _ _ _ _ _ us hl => match us, hl with | [_], _ => rfl⟩),
    g__law_whole := PySem.W.mg_of X G (cZ.dec (p := PySem.W.nsIn K mainGlobals "_law_whole" = some (some (.ref 293))) (i := 0) (j := 12) rfl rfl rfl),
    f__law_kin := (let ⟨_, F⟩ := fun_z (cZ.fns (i := 5) (d := dz_5) rfl) rfl rfl; ⟨_, F, F.binds (ps := ["_law_e"]) fun _ _ _ _ _ _ us hl => match us, hl with | [_], _ => rfl⟩),
    g__law_kin := PySem.W.mg_of X G (cZ.dec (p := PySem.W.nsIn K mainGlobals "_law_kin" = some (some (.ref 298))) (i := 0) (j := 13) rfl rfl rfl),
    f__law_plain := (let ⟨_, F⟩ := fun_z (cZ.fns (i := 6) (d := dz_6) rfl) rfl rfl; ⟨_, F, F.binds (ps := ["_law_n", "_law_m"]) fun _ _ _ _ _ _ us hl => match us, hl with | [_, _], _ => rfl⟩),
    g__law_plain := PySem.W.mg_of X G (cZ.dec (p := PySem.W.nsIn K mainGlobals "_law_plain" = some (some (.ref 303))) (i := 0) (j := 14) rfl rfl rfl),
    f__law_bare := (let ⟨_, F⟩ := fun_z (cZ.fns (i := 7) (d := dz_7) rfl) rfl rfl; ⟨_, F, F.binds (ps := []) fun _ _ _ _ _ _ us hl => match us, hl with | [], _ => rfl⟩),
    g__law_bare := PySem.W.mg_of X G (cZ.dec (p := PySem.W.nsIn K mainGlobals "_law_bare" = some (some (.ref 310))) (i := 0) (j := 15) rfl rfl rfl),
    f__law_values := (let ⟨_, F⟩ := fun_z (cZ.fns (i := 8) (d := dz_8) rfl) rfl rfl; ⟨_, F, F.binds (ps := ["_law_n", "_law_m"]) fun _ _ _ _ _ _ us hl => match us, hl with | [_, _], _ => rfl⟩),
    g__law_values := PySem.W.mg_of X G (cZ.dec (p := PySem.W.nsIn K mainGlobals "_law_values" = some (some (.ref 317))) (i := 0) (j := 16) rfl rfl rfl),
    f_law := (let ⟨_, F⟩ := fun_z (cZ.fns (i := 9) (d := dz_9) rfl) rfl rfl; ⟨_, F, F.binds (ps := ["_law_script"]) fun _ _ _ _ _ _ us hl => match us, hl with | [_], _ => rfl⟩),
    g_law := PySem.W.mg_of X G (cZ.dec (p := PySem.W.nsIn K mainGlobals "law" = some (some (.ref 324))) (i := 0) (j := 17) rfl rfl rfl),
    g_SiltError := PySem.W.mg_of X G (cZ.dec (p := PySem.W.nsIn K mainGlobals "SiltError" = some (some (.ref 24))) (i := 0) (j := 18) rfl rfl rfl),
    g_BadCore := PySem.W.mg_of X G (cZ.dec (p := PySem.W.nsIn K mainGlobals "BadCore" = some (some (.ref 37))) (i := 0) (j := 19) rfl rfl rfl),
    xt_BadCore := ⟨(cZ.fact (i := 0) (j := 23) rfl rfl : PySem.W.excIn K 37 [.type "ValueError", .type "Exception", .type "BaseException", .type "object"] "ValueError.__new__" = true), (cZ.fact (i := 0) (j := 20) rfl rfl : PySem.W.keepIn K (.ref 37) = true), (cZ.dec (p := PySem.W.subIn K (.ref 37) (.type "BaseException") = some true) (i := 0) (j := 21) rfl rfl rfl), (cZ.dec (p := PySem.W.typeIn K (.ref 37) = some (.type "type")) (i := 0) (j := 22) rfl rfl rfl)⟩,
    g_BadLayer := PySem.W.mg_of X G (cZ.dec (p := PySem.W.nsIn K mainGlobals "BadLayer" = some (some (.ref 56))) (i := 0) (j := 24) rfl rfl rfl),
    o_BadLayer := ⟨excB_ok (cZ.fact (i := 1) (j := 4) rfl rfl : excB K 56 = true), (cZ.dec (p := PySem.W.findIn K (.ref 56) "__setattr__" = some (some (.builtin "object.__setattr__"))) (i := 1) (j := 3) rfl rfl rfl), (cZ.dec (p := PySem.W.subIn K (.ref 56) (.type "BaseException") = some true) (i := 1) (j := 1) rfl rfl rfl), (cZ.dec (p := PySem.W.typeIn K (.ref 56) = some (.type "type")) (i := 1) (j := 2) rfl rfl rfl), (cZ.fact (i := 1) (j := 0) rfl rfl : PySem.W.keepIn K (.ref 56) = true)⟩,
    i_BadLayer := (cZ.dec (p := PySem.W.findIn K (.ref 56) "__init__" = some (some (.ref 53))) (i := 1) (j := 5) rfl rfl rfl),
    t_BadLayer := (cZ.dec (p := PySem.W.typeIn K (.ref 53) = some (.type "function")) (i := 1) (j := 6) rfl rfl rfl),
    nx_BadLayer_index := (cZ.dec (p := PySem.W.findIn K (.ref 56) "index" = some none) (i := 1) (j := 7) rfl rfl rfl),
    f_BadLayer___init__ := (let ⟨_, F⟩ := fun_z (cZ.fns (i := 10) (d := dz_10) rfl) rfl rfl; ⟨_, F, F.binds (ps := ["self", "index"]) fun _ _ _ _ _ _ us hl => match us, hl with | [_, _], _ => rfl⟩),
    g_BadJoint := PySem.W.mg_of X G (cZ.dec (p := PySem.W.nsIn K mainGlobals "BadJoint" = some (some (.ref 75))) (i := 1) (j := 8) rfl rfl rfl),
    o_BadJoint := ⟨excB_ok (cZ.fact (i := 1) (j := 13) rfl rfl : excB K 75 = true), (cZ.dec (p := PySem.W.findIn K (.ref 75) "__setattr__" = some (some (.builtin "object.__setattr__"))) (i := 1) (j := 12) rfl rfl rfl), (cZ.dec (p := PySem.W.subIn K (.ref 75) (.type "BaseException") = some true) (i := 1) (j := 10) rfl rfl rfl), (cZ.dec (p := PySem.W.typeIn K (.ref 75) = some (.type "type")) (i := 1) (j := 11) rfl rfl rfl), (cZ.fact (i := 1) (j := 9) rfl rfl : PySem.W.keepIn K (.ref 75) = true)⟩,
    i_BadJoint := (cZ.dec (p := PySem.W.findIn K (.ref 75) "__init__" = some (some (.ref 72))) (i := 1) (j := 14) rfl rfl rfl),
    t_BadJoint := (cZ.dec (p := PySem.W.typeIn K (.ref 72) = some (.type "function")) (i := 1) (j := 15) rfl rfl rfl),
    nx_BadJoint_index := (cZ.dec (p := PySem.W.findIn K (.ref 75) "index" = some none) (i := 1) (j := 16) rfl rfl rfl),
    f_BadJoint___init__ := (let ⟨_, F⟩ := fun_z (cZ.fns (i := 11) (d := dz_11) rfl) rfl rfl; ⟨_, F, F.binds (ps := ["self", "index"]) fun _ _ _ _ _ _ us hl => match us, hl with | [_, _], _ => rfl⟩),
    g_NoLayer := PySem.W.mg_of X G (cZ.dec (p := PySem.W.nsIn K mainGlobals "NoLayer" = some (some (.ref 94))) (i := 1) (j := 17) rfl rfl rfl),
    o_NoLayer := ⟨excB_ok (cZ.fact (i := 1) (j := 22) rfl rfl : excB K 94 = true), (cZ.dec (p := PySem.W.findIn K (.ref 94) "__setattr__" = some (some (.builtin "object.__setattr__"))) (i := 1) (j := 21) rfl rfl rfl), (cZ.dec (p := PySem.W.subIn K (.ref 94) (.type "BaseException") = some true) (i := 1) (j := 19) rfl rfl rfl), (cZ.dec (p := PySem.W.typeIn K (.ref 94) = some (.type "type")) (i := 1) (j := 20) rfl rfl rfl), (cZ.fact (i := 1) (j := 18) rfl rfl : PySem.W.keepIn K (.ref 94) = true)⟩,
    i_NoLayer := (cZ.dec (p := PySem.W.findIn K (.ref 94) "__init__" = some (some (.ref 91))) (i := 1) (j := 23) rfl rfl rfl),
    t_NoLayer := (cZ.dec (p := PySem.W.typeIn K (.ref 91) = some (.type "function")) (i := 1) (j := 24) rfl rfl rfl),
    nx_NoLayer_index := (cZ.dec (p := PySem.W.findIn K (.ref 94) "index" = some none) (i := 2) (j := 0) rfl rfl rfl),
    f_NoLayer___init__ := (let ⟨_, F⟩ := fun_z (cZ.fns (i := 12) (d := dz_12) rfl) rfl rfl; ⟨_, F, F.binds (ps := ["self", "index"]) fun _ _ _ _ _ _ us hl => match us, hl with | [_, _], _ => rfl⟩),
    g_NoJoint := PySem.W.mg_of X G (cZ.dec (p := PySem.W.nsIn K mainGlobals "NoJoint" = some (some (.ref 113))) (i := 2) (j := 1) rfl rfl rfl),
    o_NoJoint := ⟨excB_ok (cZ.fact (i := 2) (j := 6) rfl rfl : excB K 113 = true), (cZ.dec (p := PySem.W.findIn K (.ref 113) "__setattr__" = some (some (.builtin "object.__setattr__"))) (i := 2) (j := 5) rfl rfl rfl), (cZ.dec (p := PySem.W.subIn K (.ref 113) (.type "BaseException") = some true) (i := 2) (j := 3) rfl rfl rfl), (cZ.dec (p := PySem.W.typeIn K (.ref 113) = some (.type "type")) (i := 2) (j := 4) rfl rfl rfl), (cZ.fact (i := 2) (j := 2) rfl rfl : PySem.W.keepIn K (.ref 113) = true)⟩,
    i_NoJoint := (cZ.dec (p := PySem.W.findIn K (.ref 113) "__init__" = some (some (.ref 110))) (i := 2) (j := 7) rfl rfl rfl),
    t_NoJoint := (cZ.dec (p := PySem.W.typeIn K (.ref 110) = some (.type "function")) (i := 2) (j := 8) rfl rfl rfl),
    nx_NoJoint_index := (cZ.dec (p := PySem.W.findIn K (.ref 113) "index" = some none) (i := 2) (j := 9) rfl rfl rfl),
    f_NoJoint___init__ := (let ⟨_, F⟩ := fun_z (cZ.fns (i := 13) (d := dz_13) rfl) rfl rfl; ⟨_, F, F.binds (ps := ["self", "index"]) fun _ _ _ _ _ _ us hl => match us, hl with | [_, _], _ => rfl⟩),
    g_BadText := PySem.W.mg_of X G (cZ.dec (p := PySem.W.nsIn K mainGlobals "BadText" = some (some (.ref 132))) (i := 2) (j := 10) rfl rfl rfl),
    o_BadText := ⟨excB_ok (cZ.fact (i := 2) (j := 15) rfl rfl : excB K 132 = true), (cZ.dec (p := PySem.W.findIn K (.ref 132) "__setattr__" = some (some (.builtin "object.__setattr__"))) (i := 2) (j := 14) rfl rfl rfl), (cZ.dec (p := PySem.W.subIn K (.ref 132) (.type "BaseException") = some true) (i := 2) (j := 12) rfl rfl rfl), (cZ.dec (p := PySem.W.typeIn K (.ref 132) = some (.type "type")) (i := 2) (j := 13) rfl rfl rfl), (cZ.fact (i := 2) (j := 11) rfl rfl : PySem.W.keepIn K (.ref 132) = true)⟩,
    i_BadText := (cZ.dec (p := PySem.W.findIn K (.ref 132) "__init__" = some (some (.ref 129))) (i := 2) (j := 16) rfl rfl rfl),
    t_BadText := (cZ.dec (p := PySem.W.typeIn K (.ref 129) = some (.type "function")) (i := 2) (j := 17) rfl rfl rfl),
    nx_BadText_word := (cZ.dec (p := PySem.W.findIn K (.ref 132) "word" = some none) (i := 2) (j := 18) rfl rfl rfl),
    f_BadText___init__ := (let ⟨_, F⟩ := fun_z (cZ.fns (i := 14) (d := dz_14) rfl) rfl rfl; ⟨_, F, F.binds (ps := ["self", "word"]) fun _ _ _ _ _ _ us hl => match us, hl with | [_, _], _ => rfl⟩),
    g_BadRecord := PySem.W.mg_of X G (cZ.dec (p := PySem.W.nsIn K mainGlobals "BadRecord" = some (some (.ref 151))) (i := 2) (j := 19) rfl rfl rfl),
    o_BadRecord := ⟨excB_ok (cZ.fact (i := 2) (j := 24) rfl rfl : excB K 151 = true), (cZ.dec (p := PySem.W.findIn K (.ref 151) "__setattr__" = some (some (.builtin "object.__setattr__"))) (i := 2) (j := 23) rfl rfl rfl), (cZ.dec (p := PySem.W.subIn K (.ref 151) (.type "BaseException") = some true) (i := 2) (j := 21) rfl rfl rfl), (cZ.dec (p := PySem.W.typeIn K (.ref 151) = some (.type "type")) (i := 2) (j := 22) rfl rfl rfl), (cZ.fact (i := 2) (j := 20) rfl rfl : PySem.W.keepIn K (.ref 151) = true)⟩,
    i_BadRecord := (cZ.dec (p := PySem.W.findIn K (.ref 151) "__init__" = some (some (.ref 148))) (i := 3) (j := 0) rfl rfl rfl),
    t_BadRecord := (cZ.dec (p := PySem.W.typeIn K (.ref 148) = some (.type "function")) (i := 3) (j := 1) rfl rfl rfl),
    nx_BadRecord_index := (cZ.dec (p := PySem.W.findIn K (.ref 151) "index" = some none) (i := 3) (j := 2) rfl rfl rfl),
    f_BadRecord___init__ := (let ⟨_, F⟩ := fun_z (cZ.fns (i := 15) (d := dz_15) rfl) rfl rfl; ⟨_, F, F.binds (ps := ["self", "index"]) fun _ _ _ _ _ _ us hl => match us, hl with | [_, _], _ => rfl⟩),
    g_Unlike := PySem.W.mg_of X G (cZ.dec (p := PySem.W.nsIn K mainGlobals "Unlike" = some (some (.ref 163))) (i := 3) (j := 3) rfl rfl rfl),
    xt_Unlike := ⟨(cZ.fact (i := 3) (j := 7) rfl rfl : PySem.W.excIn K 163 [.type "ValueError", .type "Exception", .type "BaseException", .type "object"] "ValueError.__new__" = true), (cZ.fact (i := 3) (j := 4) rfl rfl : PySem.W.keepIn K (.ref 163) = true), (cZ.dec (p := PySem.W.subIn K (.ref 163) (.type "BaseException") = some true) (i := 3) (j := 5) rfl rfl rfl), (cZ.dec (p := PySem.W.typeIn K (.ref 163) = some (.type "type")) (i := 3) (j := 6) rfl rfl rfl)⟩,
    g_NotFitting := PySem.W.mg_of X G (cZ.dec (p := PySem.W.nsIn K mainGlobals "NotFitting" = some (some (.ref 175))) (i := 3) (j := 8) rfl rfl rfl),
    xt_NotFitting := ⟨(cZ.fact (i := 3) (j := 12) rfl rfl : PySem.W.excIn K 175 [.type "ValueError", .type "Exception", .type "BaseException", .type "object"] "ValueError.__new__" = true), (cZ.fact (i := 3) (j := 9) rfl rfl : PySem.W.keepIn K (.ref 175) = true), (cZ.dec (p := PySem.W.subIn K (.ref 175) (.type "BaseException") = some true) (i := 3) (j := 10) rfl rfl rfl), (cZ.dec (p := PySem.W.typeIn K (.ref 175) = some (.type "type")) (i := 3) (j := 11) rfl rfl rfl)⟩,
    g_NoRecord := PySem.W.mg_of X G (cZ.dec (p := PySem.W.nsIn K mainGlobals "NoRecord" = some (some (.ref 187))) (i := 3) (j := 13) rfl rfl rfl),
    xt_NoRecord := ⟨(cZ.fact (i := 3) (j := 17) rfl rfl : PySem.W.excIn K 187 [.type "ValueError", .type "Exception", .type "BaseException", .type "object"] "ValueError.__new__" = true), (cZ.fact (i := 3) (j := 14) rfl rfl : PySem.W.keepIn K (.ref 187) = true), (cZ.dec (p := PySem.W.subIn K (.ref 187) (.type "BaseException") = some true) (i := 3) (j := 15) rfl rfl rfl), (cZ.dec (p := PySem.W.typeIn K (.ref 187) = some (.type "type")) (i := 3) (j := 16) rfl rfl rfl)⟩,
    g_Clash := PySem.W.mg_of X G (cZ.dec (p := PySem.W.nsIn K mainGlobals "Clash" = some (some (.ref 206))) (i := 3) (j := 18) rfl rfl rfl),
    o_Clash := ⟨excB_ok (cZ.fact (i := 3) (j := 23) rfl rfl : excB K 206 = true), (cZ.dec (p := PySem.W.findIn K (.ref 206) "__setattr__" = some (some (.builtin "object.__setattr__"))) (i := 3) (j := 22) rfl rfl rfl), (cZ.dec (p := PySem.W.subIn K (.ref 206) (.type "BaseException") = some true) (i := 3) (j := 20) rfl rfl rfl), (cZ.dec (p := PySem.W.typeIn K (.ref 206) = some (.type "type")) (i := 3) (j := 21) rfl rfl rfl), (cZ.fact (i := 3) (j := 19) rfl rfl : PySem.W.keepIn K (.ref 206) = true)⟩,
    i_Clash := (cZ.dec (p := PySem.W.findIn K (.ref 206) "__init__" = some (some (.ref 203))) (i := 3) (j := 24) rfl rfl rfl),
    t_Clash := (cZ.dec (p := PySem.W.typeIn K (.ref 203) = some (.type "function")) (i := 4) (j := 0) rfl rfl rfl),
    nx_Clash_first := (cZ.dec (p := PySem.W.findIn K (.ref 206) "first" = some none) (i := 4) (j := 1) rfl rfl rfl),
    nx_Clash_second := (cZ.dec (p := PySem.W.findIn K (.ref 206) "second" = some none) (i := 4) (j := 2) rfl rfl rfl),
    f_Clash___init__ := (let ⟨_, F⟩ := fun_z (cZ.fns (i := 16) (d := dz_16) rfl) rfl rfl; ⟨_, F, F.binds (ps := ["self", "first", "second"]) fun _ _ _ _ _ _ us hl => match us, hl with | [_, _, _], _ => rfl⟩),
    g_BadNumber := PySem.W.mg_of X G (cZ.dec (p := PySem.W.nsIn K mainGlobals "BadNumber" = some (some (.ref 225))) (i := 4) (j := 3) rfl rfl rfl),
    o_BadNumber := ⟨excB_ok (cZ.fact (i := 4) (j := 8) rfl rfl : excB K 225 = true), (cZ.dec (p := PySem.W.findIn K (.ref 225) "__setattr__" = some (some (.builtin "object.__setattr__"))) (i := 4) (j := 7) rfl rfl rfl), (cZ.dec (p := PySem.W.subIn K (.ref 225) (.type "BaseException") = some true) (i := 4) (j := 5) rfl rfl rfl), (cZ.dec (p := PySem.W.typeIn K (.ref 225) = some (.type "type")) (i := 4) (j := 6) rfl rfl rfl), (cZ.fact (i := 4) (j := 4) rfl rfl : PySem.W.keepIn K (.ref 225) = true)⟩,
    i_BadNumber := (cZ.dec (p := PySem.W.findIn K (.ref 225) "__init__" = some (some (.ref 222))) (i := 4) (j := 9) rfl rfl rfl),
    t_BadNumber := (cZ.dec (p := PySem.W.typeIn K (.ref 222) = some (.type "function")) (i := 4) (j := 10) rfl rfl rfl),
    nx_BadNumber_number := (cZ.dec (p := PySem.W.findIn K (.ref 225) "number" = some none) (i := 4) (j := 11) rfl rfl rfl),
    f_BadNumber___init__ := (let ⟨_, F⟩ := fun_z (cZ.fns (i := 17) (d := dz_17) rfl) rfl rfl; ⟨_, F, F.binds (ps := ["self", "number"]) fun _ _ _ _ _ _ us hl => match us, hl with | [_, _], _ => rfl⟩),
    g_NoContrary := PySem.W.mg_of X G (cZ.dec (p := PySem.W.nsIn K mainGlobals "NoContrary" = some (some (.ref 237))) (i := 4) (j := 12) rfl rfl rfl),
    xt_NoContrary := ⟨(cZ.fact (i := 4) (j := 16) rfl rfl : PySem.W.excIn K 237 [.type "ValueError", .type "Exception", .type "BaseException", .type "object"] "ValueError.__new__" = true), (cZ.fact (i := 4) (j := 13) rfl rfl : PySem.W.keepIn K (.ref 237) = true), (cZ.dec (p := PySem.W.subIn K (.ref 237) (.type "BaseException") = some true) (i := 4) (j := 14) rfl rfl rfl), (cZ.dec (p := PySem.W.typeIn K (.ref 237) = some (.type "type")) (i := 4) (j := 15) rfl rfl rfl)⟩,
    g_NoSaying := PySem.W.mg_of X G (cZ.dec (p := PySem.W.nsIn K mainGlobals "NoSaying" = some (some (.ref 256))) (i := 4) (j := 17) rfl rfl rfl),
    o_NoSaying := ⟨excB_ok (cZ.fact (i := 4) (j := 22) rfl rfl : excB K 256 = true), (cZ.dec (p := PySem.W.findIn K (.ref 256) "__setattr__" = some (some (.builtin "object.__setattr__"))) (i := 4) (j := 21) rfl rfl rfl), (cZ.dec (p := PySem.W.subIn K (.ref 256) (.type "BaseException") = some true) (i := 4) (j := 19) rfl rfl rfl), (cZ.dec (p := PySem.W.typeIn K (.ref 256) = some (.type "type")) (i := 4) (j := 20) rfl rfl rfl), (cZ.fact (i := 4) (j := 18) rfl rfl : PySem.W.keepIn K (.ref 256) = true)⟩,
    i_NoSaying := (cZ.dec (p := PySem.W.findIn K (.ref 256) "__init__" = some (some (.ref 253))) (i := 4) (j := 23) rfl rfl rfl),
    t_NoSaying := (cZ.dec (p := PySem.W.typeIn K (.ref 253) = some (.type "function")) (i := 4) (j := 24) rfl rfl rfl),
    nx_NoSaying_index := (cZ.dec (p := PySem.W.findIn K (.ref 256) "index" = some none) (i := 5) (j := 0) rfl rfl rfl),
    f_NoSaying___init__ := (let ⟨_, F⟩ := fun_z (cZ.fns (i := 18) (d := dz_18) rfl) rfl rfl; ⟨_, F, F.binds (ps := ["self", "index"]) fun _ _ _ _ _ _ us hl => match us, hl with | [_, _], _ => rfl⟩),
    xi := fun c hc => match c, hc with | 0, _ => ⟨(cZ.dec (p := PySem.W.findIn K (.ref 37) "__getattribute__" = some (some (.builtin "BaseException.__getattribute__"))) (i := 5) (j := 3) rfl rfl rfl), (cZ.dec (p := PySem.W.findIn K (.ref 37) "__getattr__" = some none) (i := 5) (j := 4) rfl rfl rfl), (cZ.dec (p := PySem.W.subIn K (.ref 37) (.type "BaseException") = some true) (i := 0) (j := 21) rfl rfl rfl), (cZ.fact (i := 5) (j := 5) rfl rfl : PySem.W.hasDictIn K 37 = true), (cZ.dec (p := PySem.W.findIn K (.ref 37) "__class__" = some (some (.builtin "object.__class__"))) (i := 5) (j := 6) rfl rfl rfl), (cZ.dec (p := PySem.W.specialIn K (.builtin "object.__class__") "__get__" = some (some (.builtin "getset_descriptor.__get__"))) (i := 5) (j := 1) rfl rfl rfl), (cZ.dec (p := PySem.W.takesIn K (.builtin "object.__class__") = some true) (i := 5) (j := 2) rfl rfl rfl), (cZ.dec (p := PySem.W.mroIn K 37 (.type "object") = some true) (i := 5) (j := 7) rfl rfl rfl)⟩ | 1, _ => ⟨(cZ.dec (p := PySem.W.findIn K (.ref 56) "__getattribute__" = some (some (.builtin "BaseException.__getattribute__"))) (i := 5) (j := 8) rfl rfl rfl), (cZ.dec (p := PySem.W.findIn K (.ref 56) "__getattr__" = some none) (i := 5) (j := 9) rfl rfl rfl), (cZ.dec (p := PySem.W.subIn K (.ref 56) (.type "BaseException") = some true) (i := 1) (j := 1) rfl rfl rfl), (cZ.fact (i := 5) (j := 10) rfl rfl : PySem.W.hasDictIn K 56 = true), (cZ.dec (p := PySem.W.findIn K (.ref 56) "__class__" = some (some (.builtin "object.__class__"))) (i := 5) (j := 11) rfl rfl rfl), (cZ.dec (p := PySem.W.specialIn K (.builtin "object.__class__") "__get__" = some (some (.builtin "getset_descriptor.__get__"))) (i := 5) (j := 1) rfl rfl rfl), (cZ.dec (p := PySem.W.takesIn K (.builtin "object.__class__") = some true) (i := 5) (j := 2) rfl rfl rfl), (cZ.dec (p := PySem.W.mroIn K 56 (.type "object") = some true) (i := 5) (j := 12) rfl rfl rfl)⟩ | 2, _ => ⟨(cZ.dec (p := PySem.W.findIn K (.ref 75) "__getattribute__" = some (some (.builtin "BaseException.__getattribute__"))) (i := 5) (j := 13) rfl rfl rfl), (cZ.dec (p := PySem.W.findIn K (.ref 75) "__getattr__" = some none) (i := 5) (j := 14) rfl rfl rfl), (cZ.dec (p := PySem.W.subIn K (.ref 75) (.type "BaseException") = some true) (i := 1) (j := 10) rfl rfl rfl), (cZ.fact (i := 5) (j := 15) rfl rfl : PySem.W.hasDictIn K 75 = true), (cZ.dec (p := PySem.W.findIn K (.ref 75) "__class__" = some (some (.builtin "object.__class__"))) (i := 5) (j := 16) rfl rfl rfl), (cZ.dec (p := PySem.W.specialIn K (.builtin "object.__class__") "__get__" = some (some (.builtin "getset_descriptor.__get__"))) (i := 5) (j := 1) rfl rfl rfl), (cZ.dec (p := PySem.W.takesIn K (.builtin "object.__class__") = some true) (i := 5) (j := 2) rfl rfl rfl), (cZ.dec (p := PySem.W.mroIn K 75 (.type "object") = some true) (i := 5) (j := 17) rfl rfl rfl)⟩ | 3, _ => ⟨(cZ.dec (p := PySem.W.findIn K (.ref 94) "__getattribute__" = some (some (.builtin "BaseException.__getattribute__"))) (i := 5) (j := 18) rfl rfl rfl), (cZ.dec (p := PySem.W.findIn K (.ref 94) "__getattr__" = some none) (i := 5) (j := 19) rfl rfl rfl), (cZ.dec (p := PySem.W.subIn K (.ref 94) (.type "BaseException") = some true) (i := 1) (j := 19) rfl rfl rfl), (cZ.fact (i := 5) (j := 20) rfl rfl : PySem.W.hasDictIn K 94 = true), (cZ.dec (p := PySem.W.findIn K (.ref 94) "__class__" = some (some (.builtin "object.__class__"))) (i := 5) (j := 21) rfl rfl rfl), (cZ.dec (p := PySem.W.specialIn K (.builtin "object.__class__") "__get__" = some (some (.builtin "getset_descriptor.__get__"))) (i := 5) (j := 1) rfl rfl rfl), (cZ.dec (p := PySem.W.takesIn K (.builtin "object.__class__") = some true) (i := 5) (j := 2) rfl rfl rfl), (cZ.dec (p := PySem.W.mroIn K 94 (.type "object") = some true) (i := 5) (j := 22) rfl rfl rfl)⟩ | 4, _ => ⟨(cZ.dec (p := PySem.W.findIn K (.ref 113) "__getattribute__" = some (some (.builtin "BaseException.__getattribute__"))) (i := 5) (j := 23) rfl rfl rfl), (cZ.dec (p := PySem.W.findIn K (.ref 113) "__getattr__" = some none) (i := 5) (j := 24) rfl rfl rfl), (cZ.dec (p := PySem.W.subIn K (.ref 113) (.type "BaseException") = some true) (i := 2) (j := 3) rfl rfl rfl), (cZ.fact (i := 6) (j := 0) rfl rfl : PySem.W.hasDictIn K 113 = true), (cZ.dec (p := PySem.W.findIn K (.ref 113) "__class__" = some (some (.builtin "object.__class__"))) (i := 6) (j := 1) rfl rfl rfl), (cZ.dec (p := PySem.W.specialIn K (.builtin "object.__class__") "__get__" = some (some (.builtin "getset_descriptor.__get__"))) (i := 5) (j := 1) rfl rfl rfl), (cZ.dec (p := PySem.W.takesIn K (.builtin "object.__class__") = some true) (i := 5) (j := 2) rfl rfl rfl), (cZ.dec (p := PySem.W.mroIn K 113 (.type "object") = some true) (i := 6) (j := 2) rfl rfl rfl)⟩ | 5, _ => ⟨(cZ.dec (p := PySem.W.findIn K (.ref 132) "__getattribute__" = some (some (.builtin "BaseException.__getattribute__"))) (i := 6) (j := 3) rfl rfl rfl), (cZ.dec (p := PySem.W.findIn K (.ref 132) "__getattr__" = some none) (i := 6) (j := 4) rfl rfl rfl), (cZ.dec (p := PySem.W.subIn K (.ref 132) (.type "BaseException") = some true) (i := 2) (j := 12) rfl rfl rfl), (cZ.fact (i := 6) (j := 5) rfl rfl : PySem.W.hasDictIn K 132 = true), (cZ.dec (p := PySem.W.findIn K (.ref 132) "__class__" = some (some (.builtin "object.__class__"))) (i := 6) (j := 6) rfl rfl rfl), (cZ.dec (p := PySem.W.specialIn K (.builtin "object.__class__") "__get__" = some (some (.builtin "getset_descriptor.__get__"))) (i := 5) (j := 1) rfl rfl rfl), (cZ.dec (p := PySem.W.takesIn K (.builtin "object.__class__") = some true) (i := 5) (j := 2) rfl rfl rfl), (cZ.dec (p := PySem.W.mroIn K 132 (.type "object") = some true) (i := 6) (j := 7) rfl rfl rfl)⟩ | 6, _ => ⟨(cZ.dec (p := PySem.W.findIn K (.ref 151) "__getattribute__" = some (some (.builtin "BaseException.__getattribute__"))) (i := 6) (j := 8) rfl rfl rfl), (cZ.dec (p := PySem.W.findIn K (.ref 151) "__getattr__" = some none) (i := 6) (j := 9) rfl rfl rfl), (cZ.dec (p := PySem.W.subIn K (.ref 151) (.type "BaseException") = some true) (i := 2) (j := 21) rfl rfl rfl), (cZ.fact (i := 6) (j := 10) rfl rfl : PySem.W.hasDictIn K 151 = true), (cZ.dec (p := PySem.W.findIn K (.ref 151) "__class__" = some (some (.builtin "object.__class__"))) (i := 6) (j := 11) rfl rfl rfl), (cZ.dec (p := PySem.W.specialIn K (.builtin "object.__class__") "__get__" = some (some (.builtin "getset_descriptor.__get__"))) (i := 5) (j := 1) rfl rfl rfl), (cZ.dec (p := PySem.W.takesIn K (.builtin "object.__class__") = some true) (i := 5) (j := 2) rfl rfl rfl), (cZ.dec (p := PySem.W.mroIn K 151 (.type "object") = some true) (i := 6) (j := 12) rfl rfl rfl)⟩ | 7, _ => ⟨(cZ.dec (p := PySem.W.findIn K (.ref 163) "__getattribute__" = some (some (.builtin "BaseException.__getattribute__"))) (i := 6) (j := 13) rfl rfl rfl), (cZ.dec (p := PySem.W.findIn K (.ref 163) "__getattr__" = some none) (i := 6) (j := 14) rfl rfl rfl), (cZ.dec (p := PySem.W.subIn K (.ref 163) (.type "BaseException") = some true) (i := 3) (j := 5) rfl rfl rfl), (cZ.fact (i := 6) (j := 15) rfl rfl : PySem.W.hasDictIn K 163 = true), (cZ.dec (p := PySem.W.findIn K (.ref 163) "__class__" = some (some (.builtin "object.__class__"))) (i := 6) (j := 16) rfl rfl rfl), (cZ.dec (p := PySem.W.specialIn K (.builtin "object.__class__") "__get__" = some (some (.builtin "getset_descriptor.__get__"))) (i := 5) (j := 1) rfl rfl rfl), (cZ.dec (p := PySem.W.takesIn K (.builtin "object.__class__") = some true) (i := 5) (j := 2) rfl rfl rfl), (cZ.dec (p := PySem.W.mroIn K 163 (.type "object") = some true) (i := 6) (j := 17) rfl rfl rfl)⟩ | 8, _ => ⟨(cZ.dec (p := PySem.W.findIn K (.ref 175) "__getattribute__" = some (some (.builtin "BaseException.__getattribute__"))) (i := 6) (j := 18) rfl rfl rfl), (cZ.dec (p := PySem.W.findIn K (.ref 175) "__getattr__" = some none) (i := 6) (j := 19) rfl rfl rfl), (cZ.dec (p := PySem.W.subIn K (.ref 175) (.type "BaseException") = some true) (i := 3) (j := 10) rfl rfl rfl), (cZ.fact (i := 6) (j := 20) rfl rfl : PySem.W.hasDictIn K 175 = true), (cZ.dec (p := PySem.W.findIn K (.ref 175) "__class__" = some (some (.builtin "object.__class__"))) (i := 6) (j := 21) rfl rfl rfl), (cZ.dec (p := PySem.W.specialIn K (.builtin "object.__class__") "__get__" = some (some (.builtin "getset_descriptor.__get__"))) (i := 5) (j := 1) rfl rfl rfl), (cZ.dec (p := PySem.W.takesIn K (.builtin "object.__class__") = some true) (i := 5) (j := 2) rfl rfl rfl), (cZ.dec (p := PySem.W.mroIn K 175 (.type "object") = some true) (i := 6) (j := 22) rfl rfl rfl)⟩ | 9, _ => ⟨(cZ.dec (p := PySem.W.findIn K (.ref 187) "__getattribute__" = some (some (.builtin "BaseException.__getattribute__"))) (i := 6) (j := 23) rfl rfl rfl), (cZ.dec (p := PySem.W.findIn K (.ref 187) "__getattr__" = some none) (i := 6) (j := 24) rfl rfl rfl), (cZ.dec (p := PySem.W.subIn K (.ref 187) (.type "BaseException") = some true) (i := 3) (j := 15) rfl rfl rfl), (cZ.fact (i := 7) (j := 0) rfl rfl : PySem.W.hasDictIn K 187 = true), (cZ.dec (p := PySem.W.findIn K (.ref 187) "__class__" = some (some (.builtin "object.__class__"))) (i := 7) (j := 1) rfl rfl rfl), (cZ.dec (p := PySem.W.specialIn K (.builtin "object.__class__") "__get__" = some (some (.builtin "getset_descriptor.__get__"))) (i := 5) (j := 1) rfl rfl rfl), (cZ.dec (p := PySem.W.takesIn K (.builtin "object.__class__") = some true) (i := 5) (j := 2) rfl rfl rfl), (cZ.dec (p := PySem.W.mroIn K 187 (.type "object") = some true) (i := 7) (j := 2) rfl rfl rfl)⟩ | 10, _ => ⟨(cZ.dec (p := PySem.W.findIn K (.ref 206) "__getattribute__" = some (some (.builtin "BaseException.__getattribute__"))) (i := 7) (j := 3) rfl rfl rfl), (cZ.dec (p := PySem.W.findIn K (.ref 206) "__getattr__" = some none) (i := 7) (j := 4) rfl rfl rfl), (cZ.dec (p := PySem.W.subIn K (.ref 206) (.type "BaseException") = some true) (i := 3) (j := 20) rfl rfl rfl), (cZ.fact (i := 7) (j := 5) rfl rfl : PySem.W.hasDictIn K 206 = true), (cZ.dec (p := PySem.W.findIn K (.ref 206) "__class__" = some (some (.builtin "object.__class__"))) (i := 7) (j := 6) rfl rfl rfl), (cZ.dec (p := PySem.W.specialIn K (.builtin "object.__class__") "__get__" = some (some (.builtin "getset_descriptor.__get__"))) (i := 5) (j := 1) rfl rfl rfl), (cZ.dec (p := PySem.W.takesIn K (.builtin "object.__class__") = some true) (i := 5) (j := 2) rfl rfl rfl), (cZ.dec (p := PySem.W.mroIn K 206 (.type "object") = some true) (i := 7) (j := 7) rfl rfl rfl)⟩ | 11, _ => ⟨(cZ.dec (p := PySem.W.findIn K (.ref 225) "__getattribute__" = some (some (.builtin "BaseException.__getattribute__"))) (i := 7) (j := 8) rfl rfl rfl), (cZ.dec (p := PySem.W.findIn K (.ref 225) "__getattr__" = some none) (i := 7) (j := 9) rfl rfl rfl), (cZ.dec (p := PySem.W.subIn K (.ref 225) (.type "BaseException") = some true) (i := 4) (j := 5) rfl rfl rfl), (cZ.fact (i := 7) (j := 10) rfl rfl : PySem.W.hasDictIn K 225 = true), (cZ.dec (p := PySem.W.findIn K (.ref 225) "__class__" = some (some (.builtin "object.__class__"))) (i := 7) (j := 11) rfl rfl rfl), (cZ.dec (p := PySem.W.specialIn K (.builtin "object.__class__") "__get__" = some (some (.builtin "getset_descriptor.__get__"))) (i := 5) (j := 1) rfl rfl rfl), (cZ.dec (p := PySem.W.takesIn K (.builtin "object.__class__") = some true) (i := 5) (j := 2) rfl rfl rfl), (cZ.dec (p := PySem.W.mroIn K 225 (.type "object") = some true) (i := 7) (j := 12) rfl rfl rfl)⟩ | 12, _ => ⟨(cZ.dec (p := PySem.W.findIn K (.ref 237) "__getattribute__" = some (some (.builtin "BaseException.__getattribute__"))) (i := 7) (j := 13) rfl rfl rfl), (cZ.dec (p := PySem.W.findIn K (.ref 237) "__getattr__" = some none) (i := 7) (j := 14) rfl rfl rfl), (cZ.dec (p := PySem.W.subIn K (.ref 237) (.type "BaseException") = some true) (i := 4) (j := 14) rfl rfl rfl), (cZ.fact (i := 7) (j := 15) rfl rfl : PySem.W.hasDictIn K 237 = true), (cZ.dec (p := PySem.W.findIn K (.ref 237) "__class__" = some (some (.builtin "object.__class__"))) (i := 7) (j := 16) rfl rfl rfl), (cZ.dec (p := PySem.W.specialIn K (.builtin "object.__class__") "__get__" = some (some (.builtin "getset_descriptor.__get__"))) (i := 5) (j := 1) rfl rfl rfl), (cZ.dec (p := PySem.W.takesIn K (.builtin "object.__class__") = some true) (i := 5) (j := 2) rfl rfl rfl), (cZ.dec (p := PySem.W.mroIn K 237 (.type "object") = some true) (i := 7) (j := 17) rfl rfl rfl)⟩ | 13, _ => ⟨(cZ.dec (p := PySem.W.findIn K (.ref 256) "__getattribute__" = some (some (.builtin "BaseException.__getattribute__"))) (i := 7) (j := 18) rfl rfl rfl), (cZ.dec (p := PySem.W.findIn K (.ref 256) "__getattr__" = some none) (i := 7) (j := 19) rfl rfl rfl), (cZ.dec (p := PySem.W.subIn K (.ref 256) (.type "BaseException") = some true) (i := 4) (j := 19) rfl rfl rfl), (cZ.fact (i := 7) (j := 20) rfl rfl : PySem.W.hasDictIn K 256 = true), (cZ.dec (p := PySem.W.findIn K (.ref 256) "__class__" = some (some (.builtin "object.__class__"))) (i := 7) (j := 21) rfl rfl rfl), (cZ.dec (p := PySem.W.specialIn K (.builtin "object.__class__") "__get__" = some (some (.builtin "getset_descriptor.__get__"))) (i := 5) (j := 1) rfl rfl rfl), (cZ.dec (p := PySem.W.takesIn K (.builtin "object.__class__") = some true) (i := 5) (j := 2) rfl rfl rfl), (cZ.dec (p := PySem.W.mroIn K 256 (.type "object") = some true) (i := 7) (j := 22) rfl rfl rfl)⟩ | n + 14, h => absurd h (by omega),
    xk_BadCore := fun c hc => match c, hc with | 0, _ => (cZ.dec (p := PySem.W.kitOne K (.ref 37) (.ref 37) = some true) (i := 7) (j := 23) rfl rfl rfl) | 1, _ => (cZ.dec (p := PySem.W.kitOne K (.ref 56) (.ref 37) = some true) (i := 7) (j := 24) rfl rfl rfl) | 2, _ => (cZ.dec (p := PySem.W.kitOne K (.ref 75) (.ref 37) = some true) (i := 8) (j := 0) rfl rfl rfl) | 3, _ => (cZ.dec (p := PySem.W.kitOne K (.ref 94) (.ref 37) = some false) (i := 8) (j := 1) rfl rfl rfl) | 4, _ => (cZ.dec (p := PySem.W.kitOne K (.ref 113) (.ref 37) = some false) (i := 8) (j := 2) rfl rfl rfl) | 5, _ => (cZ.dec (p := PySem.W.kitOne K (.ref 132) (.ref 37) = some false) (i := 8) (j := 3) rfl rfl rfl) | 6, _ => (cZ.dec (p := PySem.W.kitOne K (.ref 151) (.ref 37) = some false) (i := 8) (j := 4) rfl rfl rfl) | 7, _ => (cZ.dec (p := PySem.W.kitOne K (.ref 163) (.ref 37) = some false) (i := 8) (j := 5) rfl rfl rfl) | 8, _ => (cZ.dec (p := PySem.W.kitOne K (.ref 175) (.ref 37) = some false) (i := 8) (j := 6) rfl rfl rfl) | 9, _ => (cZ.dec (p := PySem.W.kitOne K (.ref 187) (.ref 37) = some false) (i := 8) (j := 7) rfl rfl rfl) | 10, _ => (cZ.dec (p := PySem.W.kitOne K (.ref 206) (.ref 37) = some false) (i := 8) (j := 8) rfl rfl rfl) | 11, _ => (cZ.dec (p := PySem.W.kitOne K (.ref 225) (.ref 37) = some false) (i := 8) (j := 9) rfl rfl rfl) | 12, _ => (cZ.dec (p := PySem.W.kitOne K (.ref 237) (.ref 37) = some false) (i := 8) (j := 10) rfl rfl rfl) | 13, _ => (cZ.dec (p := PySem.W.kitOne K (.ref 256) (.ref 37) = some false) (i := 8) (j := 11) rfl rfl rfl) | n + 14, h => absurd h (by omega),
    xk_BadJoint := fun c hc => match c, hc with | 0, _ => (cZ.dec (p := PySem.W.kitOne K (.ref 37) (.ref 75) = some false) (i := 8) (j := 12) rfl rfl rfl) | 1, _ => (cZ.dec (p := PySem.W.kitOne K (.ref 56) (.ref 75) = some false) (i := 8) (j := 13) rfl rfl rfl) | 2, _ => (cZ.dec (p := PySem.W.kitOne K (.ref 75) (.ref 75) = some true) (i := 8) (j := 14) rfl rfl rfl) | 3, _ => (cZ.dec (p := PySem.W.kitOne K (.ref 94) (.ref 75) = some false) (i := 8) (j := 15) rfl rfl rfl) | 4, _ => (cZ.dec (p := PySem.W.kitOne K (.ref 113) (.ref 75) = some false) (i := 8) (j := 16) rfl rfl rfl) | 5, _ => (cZ.dec (p := PySem.W.kitOne K (.ref 132) (.ref 75) = some false) (i := 8) (j := 17) rfl rfl rfl) | 6, _ => (cZ.dec (p := PySem.W.kitOne K (.ref 151) (.ref 75) = some false) (i := 8) (j := 18) rfl rfl rfl) | 7, _ => (cZ.dec (p := PySem.W.kitOne K (.ref 163) (.ref 75) = some false) (i := 8) (j := 19) rfl rfl rfl) | 8, _ => (cZ.dec (p := PySem.W.kitOne K (.ref 175) (.ref 75) = some false) (i := 8) (j := 20) rfl rfl rfl) | 9, _ => (cZ.dec (p := PySem.W.kitOne K (.ref 187) (.ref 75) = some false) (i := 8) (j := 21) rfl rfl rfl) | 10, _ => (cZ.dec (p := PySem.W.kitOne K (.ref 206) (.ref 75) = some false) (i := 8) (j := 22) rfl rfl rfl) | 11, _ => (cZ.dec (p := PySem.W.kitOne K (.ref 225) (.ref 75) = some false) (i := 8) (j := 23) rfl rfl rfl) | 12, _ => (cZ.dec (p := PySem.W.kitOne K (.ref 237) (.ref 75) = some false) (i := 8) (j := 24) rfl rfl rfl) | 13, _ => (cZ.dec (p := PySem.W.kitOne K (.ref 256) (.ref 75) = some false) (i := 9) (j := 0) rfl rfl rfl) | n + 14, h => absurd h (by omega),
    xk_BadLayer := fun c hc => match c, hc with | 0, _ => (cZ.dec (p := PySem.W.kitOne K (.ref 37) (.ref 56) = some false) (i := 9) (j := 1) rfl rfl rfl) | 1, _ => (cZ.dec (p := PySem.W.kitOne K (.ref 56) (.ref 56) = some true) (i := 9) (j := 2) rfl rfl rfl) | 2, _ => (cZ.dec (p := PySem.W.kitOne K (.ref 75) (.ref 56) = some false) (i := 9) (j := 3) rfl rfl rfl) | 3, _ => (cZ.dec (p := PySem.W.kitOne K (.ref 94) (.ref 56) = some false) (i := 9) (j := 4) rfl rfl rfl) | 4, _ => (cZ.dec (p := PySem.W.kitOne K (.ref 113) (.ref 56) = some false) (i := 9) (j := 5) rfl rfl rfl) | 5, _ => (cZ.dec (p := PySem.W.kitOne K (.ref 132) (.ref 56) = some false) (i := 9) (j := 6) rfl rfl rfl) | 6, _ => (cZ.dec (p := PySem.W.kitOne K (.ref 151) (.ref 56) = some false) (i := 9) (j := 7) rfl rfl rfl) | 7, _ => (cZ.dec (p := PySem.W.kitOne K (.ref 163) (.ref 56) = some false) (i := 9) (j := 8) rfl rfl rfl) | 8, _ => (cZ.dec (p := PySem.W.kitOne K (.ref 175) (.ref 56) = some false) (i := 9) (j := 9) rfl rfl rfl) | 9, _ => (cZ.dec (p := PySem.W.kitOne K (.ref 187) (.ref 56) = some false) (i := 9) (j := 10) rfl rfl rfl) | 10, _ => (cZ.dec (p := PySem.W.kitOne K (.ref 206) (.ref 56) = some false) (i := 9) (j := 11) rfl rfl rfl) | 11, _ => (cZ.dec (p := PySem.W.kitOne K (.ref 225) (.ref 56) = some false) (i := 9) (j := 12) rfl rfl rfl) | 12, _ => (cZ.dec (p := PySem.W.kitOne K (.ref 237) (.ref 56) = some false) (i := 9) (j := 13) rfl rfl rfl) | 13, _ => (cZ.dec (p := PySem.W.kitOne K (.ref 256) (.ref 56) = some false) (i := 9) (j := 14) rfl rfl rfl) | n + 14, h => absurd h (by omega),
    xk_BadNumber := fun c hc => match c, hc with | 0, _ => (cZ.dec (p := PySem.W.kitOne K (.ref 37) (.ref 225) = some false) (i := 9) (j := 15) rfl rfl rfl) | 1, _ => (cZ.dec (p := PySem.W.kitOne K (.ref 56) (.ref 225) = some false) (i := 9) (j := 16) rfl rfl rfl) | 2, _ => (cZ.dec (p := PySem.W.kitOne K (.ref 75) (.ref 225) = some false) (i := 9) (j := 17) rfl rfl rfl) | 3, _ => (cZ.dec (p := PySem.W.kitOne K (.ref 94) (.ref 225) = some false) (i := 9) (j := 18) rfl rfl rfl) | 4, _ => (cZ.dec (p := PySem.W.kitOne K (.ref 113) (.ref 225) = some false) (i := 9) (j := 19) rfl rfl rfl) | 5, _ => (cZ.dec (p := PySem.W.kitOne K (.ref 132) (.ref 225) = some false) (i := 9) (j := 20) rfl rfl rfl) | 6, _ => (cZ.dec (p := PySem.W.kitOne K (.ref 151) (.ref 225) = some false) (i := 9) (j := 21) rfl rfl rfl) | 7, _ => (cZ.dec (p := PySem.W.kitOne K (.ref 163) (.ref 225) = some false) (i := 9) (j := 22) rfl rfl rfl) | 8, _ => (cZ.dec (p := PySem.W.kitOne K (.ref 175) (.ref 225) = some false) (i := 9) (j := 23) rfl rfl rfl) | 9, _ => (cZ.dec (p := PySem.W.kitOne K (.ref 187) (.ref 225) = some false) (i := 9) (j := 24) rfl rfl rfl) | 10, _ => (cZ.dec (p := PySem.W.kitOne K (.ref 206) (.ref 225) = some false) (i := 10) (j := 0) rfl rfl rfl) | 11, _ => (cZ.dec (p := PySem.W.kitOne K (.ref 225) (.ref 225) = some true) (i := 10) (j := 1) rfl rfl rfl) | 12, _ => (cZ.dec (p := PySem.W.kitOne K (.ref 237) (.ref 225) = some false) (i := 10) (j := 2) rfl rfl rfl) | 13, _ => (cZ.dec (p := PySem.W.kitOne K (.ref 256) (.ref 225) = some false) (i := 10) (j := 3) rfl rfl rfl) | n + 14, h => absurd h (by omega),
    xk_BadRecord := fun c hc => match c, hc with | 0, _ => (cZ.dec (p := PySem.W.kitOne K (.ref 37) (.ref 151) = some false) (i := 10) (j := 4) rfl rfl rfl) | 1, _ => (cZ.dec (p := PySem.W.kitOne K (.ref 56) (.ref 151) = some false) (i := 10) (j := 5) rfl rfl rfl) | 2, _ => (cZ.dec (p := PySem.W.kitOne K (.ref 75) (.ref 151) = some false) (i := 10) (j := 6) rfl rfl rfl) | 3, _ => (cZ.dec (p := PySem.W.kitOne K (.ref 94) (.ref 151) = some false) (i := 10) (j := 7) rfl rfl rfl) | 4, _ => (cZ.dec (p := PySem.W.kitOne K (.ref 113) (.ref 151) = some false) (i := 10) (j := 8) rfl rfl rfl) | 5, _ => (cZ.dec (p := PySem.W.kitOne K (.ref 132) (.ref 151) = some false) (i := 10) (j := 9) rfl rfl rfl) | 6, _ => (cZ.dec (p := PySem.W.kitOne K (.ref 151) (.ref 151) = some true) (i := 10) (j := 10) rfl rfl rfl) | 7, _ => (cZ.dec (p := PySem.W.kitOne K (.ref 163) (.ref 151) = some false) (i := 10) (j := 11) rfl rfl rfl) | 8, _ => (cZ.dec (p := PySem.W.kitOne K (.ref 175) (.ref 151) = some false) (i := 10) (j := 12) rfl rfl rfl) | 9, _ => (cZ.dec (p := PySem.W.kitOne K (.ref 187) (.ref 151) = some false) (i := 10) (j := 13) rfl rfl rfl) | 10, _ => (cZ.dec (p := PySem.W.kitOne K (.ref 206) (.ref 151) = some false) (i := 10) (j := 14) rfl rfl rfl) | 11, _ => (cZ.dec (p := PySem.W.kitOne K (.ref 225) (.ref 151) = some false) (i := 10) (j := 15) rfl rfl rfl) | 12, _ => (cZ.dec (p := PySem.W.kitOne K (.ref 237) (.ref 151) = some false) (i := 10) (j := 16) rfl rfl rfl) | 13, _ => (cZ.dec (p := PySem.W.kitOne K (.ref 256) (.ref 151) = some false) (i := 10) (j := 17) rfl rfl rfl) | n + 14, h => absurd h (by omega),
    xk_BadText := fun c hc => match c, hc with | 0, _ => (cZ.dec (p := PySem.W.kitOne K (.ref 37) (.ref 132) = some false) (i := 10) (j := 18) rfl rfl rfl) | 1, _ => (cZ.dec (p := PySem.W.kitOne K (.ref 56) (.ref 132) = some false) (i := 10) (j := 19) rfl rfl rfl) | 2, _ => (cZ.dec (p := PySem.W.kitOne K (.ref 75) (.ref 132) = some false) (i := 10) (j := 20) rfl rfl rfl) | 3, _ => (cZ.dec (p := PySem.W.kitOne K (.ref 94) (.ref 132) = some false) (i := 10) (j := 21) rfl rfl rfl) | 4, _ => (cZ.dec (p := PySem.W.kitOne K (.ref 113) (.ref 132) = some false) (i := 10) (j := 22) rfl rfl rfl) | 5, _ => (cZ.dec (p := PySem.W.kitOne K (.ref 132) (.ref 132) = some true) (i := 10) (j := 23) rfl rfl rfl) | 6, _ => (cZ.dec (p := PySem.W.kitOne K (.ref 151) (.ref 132) = some false) (i := 10) (j := 24) rfl rfl rfl) | 7, _ => (cZ.dec (p := PySem.W.kitOne K (.ref 163) (.ref 132) = some false) (i := 11) (j := 0) rfl rfl rfl) | 8, _ => (cZ.dec (p := PySem.W.kitOne K (.ref 175) (.ref 132) = some false) (i := 11) (j := 1) rfl rfl rfl) | 9, _ => (cZ.dec (p := PySem.W.kitOne K (.ref 187) (.ref 132) = some false) (i := 11) (j := 2) rfl rfl rfl) | 10, _ => (cZ.dec (p := PySem.W.kitOne K (.ref 206) (.ref 132) = some false) (i := 11) (j := 3) rfl rfl rfl) | 11, _ => (cZ.dec (p := PySem.W.kitOne K (.ref 225) (.ref 132) = some false) (i := 11) (j := 4) rfl rfl rfl) | 12, _ => (cZ.dec (p := PySem.W.kitOne K (.ref 237) (.ref 132) = some false) (i := 11) (j := 5) rfl rfl rfl) | 13, _ => (cZ.dec (p := PySem.W.kitOne K (.ref 256) (.ref 132) = some false) (i := 11) (j := 6) rfl rfl rfl) | n + 14, h => absurd h (by omega),
    xk_Clash := fun c hc => match c, hc with | 0, _ => (cZ.dec (p := PySem.W.kitOne K (.ref 37) (.ref 206) = some false) (i := 11) (j := 7) rfl rfl rfl) | 1, _ => (cZ.dec (p := PySem.W.kitOne K (.ref 56) (.ref 206) = some false) (i := 11) (j := 8) rfl rfl rfl) | 2, _ => (cZ.dec (p := PySem.W.kitOne K (.ref 75) (.ref 206) = some false) (i := 11) (j := 9) rfl rfl rfl) | 3, _ => (cZ.dec (p := PySem.W.kitOne K (.ref 94) (.ref 206) = some false) (i := 11) (j := 10) rfl rfl rfl) | 4, _ => (cZ.dec (p := PySem.W.kitOne K (.ref 113) (.ref 206) = some false) (i := 11) (j := 11) rfl rfl rfl) | 5, _ => (cZ.dec (p := PySem.W.kitOne K (.ref 132) (.ref 206) = some false) (i := 11) (j := 12) rfl rfl rfl) | 6, _ => (cZ.dec (p := PySem.W.kitOne K (.ref 151) (.ref 206) = some false) (i := 11) (j := 13) rfl rfl rfl) | 7, _ => (cZ.dec (p := PySem.W.kitOne K (.ref 163) (.ref 206) = some false) (i := 11) (j := 14) rfl rfl rfl) | 8, _ => (cZ.dec (p := PySem.W.kitOne K (.ref 175) (.ref 206) = some false) (i := 11) (j := 15) rfl rfl rfl) | 9, _ => (cZ.dec (p := PySem.W.kitOne K (.ref 187) (.ref 206) = some false) (i := 11) (j := 16) rfl rfl rfl) | 10, _ => (cZ.dec (p := PySem.W.kitOne K (.ref 206) (.ref 206) = some true) (i := 11) (j := 17) rfl rfl rfl) | 11, _ => (cZ.dec (p := PySem.W.kitOne K (.ref 225) (.ref 206) = some false) (i := 11) (j := 18) rfl rfl rfl) | 12, _ => (cZ.dec (p := PySem.W.kitOne K (.ref 237) (.ref 206) = some false) (i := 11) (j := 19) rfl rfl rfl) | 13, _ => (cZ.dec (p := PySem.W.kitOne K (.ref 256) (.ref 206) = some false) (i := 11) (j := 20) rfl rfl rfl) | n + 14, h => absurd h (by omega),
    xk_NoContrary := fun c hc => match c, hc with | 0, _ => (cZ.dec (p := PySem.W.kitOne K (.ref 37) (.ref 237) = some false) (i := 11) (j := 21) rfl rfl rfl) | 1, _ => (cZ.dec (p := PySem.W.kitOne K (.ref 56) (.ref 237) = some false) (i := 11) (j := 22) rfl rfl rfl) | 2, _ => (cZ.dec (p := PySem.W.kitOne K (.ref 75) (.ref 237) = some false) (i := 11) (j := 23) rfl rfl rfl) | 3, _ => (cZ.dec (p := PySem.W.kitOne K (.ref 94) (.ref 237) = some false) (i := 11) (j := 24) rfl rfl rfl) | 4, _ => (cZ.dec (p := PySem.W.kitOne K (.ref 113) (.ref 237) = some false) (i := 12) (j := 0) rfl rfl rfl) | 5, _ => (cZ.dec (p := PySem.W.kitOne K (.ref 132) (.ref 237) = some false) (i := 12) (j := 1) rfl rfl rfl) | 6, _ => (cZ.dec (p := PySem.W.kitOne K (.ref 151) (.ref 237) = some false) (i := 12) (j := 2) rfl rfl rfl) | 7, _ => (cZ.dec (p := PySem.W.kitOne K (.ref 163) (.ref 237) = some false) (i := 12) (j := 3) rfl rfl rfl) | 8, _ => (cZ.dec (p := PySem.W.kitOne K (.ref 175) (.ref 237) = some false) (i := 12) (j := 4) rfl rfl rfl) | 9, _ => (cZ.dec (p := PySem.W.kitOne K (.ref 187) (.ref 237) = some false) (i := 12) (j := 5) rfl rfl rfl) | 10, _ => (cZ.dec (p := PySem.W.kitOne K (.ref 206) (.ref 237) = some false) (i := 12) (j := 6) rfl rfl rfl) | 11, _ => (cZ.dec (p := PySem.W.kitOne K (.ref 225) (.ref 237) = some false) (i := 12) (j := 7) rfl rfl rfl) | 12, _ => (cZ.dec (p := PySem.W.kitOne K (.ref 237) (.ref 237) = some true) (i := 12) (j := 8) rfl rfl rfl) | 13, _ => (cZ.dec (p := PySem.W.kitOne K (.ref 256) (.ref 237) = some false) (i := 12) (j := 9) rfl rfl rfl) | n + 14, h => absurd h (by omega),
    xk_NoJoint := fun c hc => match c, hc with | 0, _ => (cZ.dec (p := PySem.W.kitOne K (.ref 37) (.ref 113) = some false) (i := 12) (j := 10) rfl rfl rfl) | 1, _ => (cZ.dec (p := PySem.W.kitOne K (.ref 56) (.ref 113) = some false) (i := 12) (j := 11) rfl rfl rfl) | 2, _ => (cZ.dec (p := PySem.W.kitOne K (.ref 75) (.ref 113) = some false) (i := 12) (j := 12) rfl rfl rfl) | 3, _ => (cZ.dec (p := PySem.W.kitOne K (.ref 94) (.ref 113) = some false) (i := 12) (j := 13) rfl rfl rfl) | 4, _ => (cZ.dec (p := PySem.W.kitOne K (.ref 113) (.ref 113) = some true) (i := 12) (j := 14) rfl rfl rfl) | 5, _ => (cZ.dec (p := PySem.W.kitOne K (.ref 132) (.ref 113) = some false) (i := 12) (j := 15) rfl rfl rfl) | 6, _ => (cZ.dec (p := PySem.W.kitOne K (.ref 151) (.ref 113) = some false) (i := 12) (j := 16) rfl rfl rfl) | 7, _ => (cZ.dec (p := PySem.W.kitOne K (.ref 163) (.ref 113) = some false) (i := 12) (j := 17) rfl rfl rfl) | 8, _ => (cZ.dec (p := PySem.W.kitOne K (.ref 175) (.ref 113) = some false) (i := 12) (j := 18) rfl rfl rfl) | 9, _ => (cZ.dec (p := PySem.W.kitOne K (.ref 187) (.ref 113) = some false) (i := 12) (j := 19) rfl rfl rfl) | 10, _ => (cZ.dec (p := PySem.W.kitOne K (.ref 206) (.ref 113) = some false) (i := 12) (j := 20) rfl rfl rfl) | 11, _ => (cZ.dec (p := PySem.W.kitOne K (.ref 225) (.ref 113) = some false) (i := 12) (j := 21) rfl rfl rfl) | 12, _ => (cZ.dec (p := PySem.W.kitOne K (.ref 237) (.ref 113) = some false) (i := 12) (j := 22) rfl rfl rfl) | 13, _ => (cZ.dec (p := PySem.W.kitOne K (.ref 256) (.ref 113) = some false) (i := 12) (j := 23) rfl rfl rfl) | n + 14, h => absurd h (by omega),
    xk_NoLayer := fun c hc => match c, hc with | 0, _ => (cZ.dec (p := PySem.W.kitOne K (.ref 37) (.ref 94) = some false) (i := 12) (j := 24) rfl rfl rfl) | 1, _ => (cZ.dec (p := PySem.W.kitOne K (.ref 56) (.ref 94) = some false) (i := 13) (j := 0) rfl rfl rfl) | 2, _ => (cZ.dec (p := PySem.W.kitOne K (.ref 75) (.ref 94) = some false) (i := 13) (j := 1) rfl rfl rfl) | 3, _ => (cZ.dec (p := PySem.W.kitOne K (.ref 94) (.ref 94) = some true) (i := 13) (j := 2) rfl rfl rfl) | 4, _ => (cZ.dec (p := PySem.W.kitOne K (.ref 113) (.ref 94) = some false) (i := 13) (j := 3) rfl rfl rfl) | 5, _ => (cZ.dec (p := PySem.W.kitOne K (.ref 132) (.ref 94) = some false) (i := 13) (j := 4) rfl rfl rfl) | 6, _ => (cZ.dec (p := PySem.W.kitOne K (.ref 151) (.ref 94) = some false) (i := 13) (j := 5) rfl rfl rfl) | 7, _ => (cZ.dec (p := PySem.W.kitOne K (.ref 163) (.ref 94) = some false) (i := 13) (j := 6) rfl rfl rfl) | 8, _ => (cZ.dec (p := PySem.W.kitOne K (.ref 175) (.ref 94) = some false) (i := 13) (j := 7) rfl rfl rfl) | 9, _ => (cZ.dec (p := PySem.W.kitOne K (.ref 187) (.ref 94) = some false) (i := 13) (j := 8) rfl rfl rfl) | 10, _ => (cZ.dec (p := PySem.W.kitOne K (.ref 206) (.ref 94) = some false) (i := 13) (j := 9) rfl rfl rfl) | 11, _ => (cZ.dec (p := PySem.W.kitOne K (.ref 225) (.ref 94) = some false) (i := 13) (j := 10) rfl rfl rfl) | 12, _ => (cZ.dec (p := PySem.W.kitOne K (.ref 237) (.ref 94) = some false) (i := 13) (j := 11) rfl rfl rfl) | 13, _ => (cZ.dec (p := PySem.W.kitOne K (.ref 256) (.ref 94) = some false) (i := 13) (j := 12) rfl rfl rfl) | n + 14, h => absurd h (by omega),
    xk_NoRecord := fun c hc => match c, hc with | 0, _ => (cZ.dec (p := PySem.W.kitOne K (.ref 37) (.ref 187) = some false) (i := 13) (j := 13) rfl rfl rfl) | 1, _ => (cZ.dec (p := PySem.W.kitOne K (.ref 56) (.ref 187) = some false) (i := 13) (j := 14) rfl rfl rfl) | 2, _ => (cZ.dec (p := PySem.W.kitOne K (.ref 75) (.ref 187) = some false) (i := 13) (j := 15) rfl rfl rfl) | 3, _ => (cZ.dec (p := PySem.W.kitOne K (.ref 94) (.ref 187) = some false) (i := 13) (j := 16) rfl rfl rfl) | 4, _ => (cZ.dec (p := PySem.W.kitOne K (.ref 113) (.ref 187) = some false) (i := 13) (j := 17) rfl rfl rfl) | 5, _ => (cZ.dec (p := PySem.W.kitOne K (.ref 132) (.ref 187) = some false) (i := 13) (j := 18) rfl rfl rfl) | 6, _ => (cZ.dec (p := PySem.W.kitOne K (.ref 151) (.ref 187) = some false) (i := 13) (j := 19) rfl rfl rfl) | 7, _ => (cZ.dec (p := PySem.W.kitOne K (.ref 163) (.ref 187) = some false) (i := 13) (j := 20) rfl rfl rfl) | 8, _ => (cZ.dec (p := PySem.W.kitOne K (.ref 175) (.ref 187) = some false) (i := 13) (j := 21) rfl rfl rfl) | 9, _ => (cZ.dec (p := PySem.W.kitOne K (.ref 187) (.ref 187) = some true) (i := 13) (j := 22) rfl rfl rfl) | 10, _ => (cZ.dec (p := PySem.W.kitOne K (.ref 206) (.ref 187) = some true) (i := 13) (j := 23) rfl rfl rfl) | 11, _ => (cZ.dec (p := PySem.W.kitOne K (.ref 225) (.ref 187) = some false) (i := 13) (j := 24) rfl rfl rfl) | 12, _ => (cZ.dec (p := PySem.W.kitOne K (.ref 237) (.ref 187) = some false) (i := 14) (j := 0) rfl rfl rfl) | 13, _ => (cZ.dec (p := PySem.W.kitOne K (.ref 256) (.ref 187) = some false) (i := 14) (j := 1) rfl rfl rfl) | n + 14, h => absurd h (by omega),
    xk_NoSaying := fun c hc => match c, hc with | 0, _ => (cZ.dec (p := PySem.W.kitOne K (.ref 37) (.ref 256) = some false) (i := 14) (j := 2) rfl rfl rfl) | 1, _ => (cZ.dec (p := PySem.W.kitOne K (.ref 56) (.ref 256) = some false) (i := 14) (j := 3) rfl rfl rfl) | 2, _ => (cZ.dec (p := PySem.W.kitOne K (.ref 75) (.ref 256) = some false) (i := 14) (j := 4) rfl rfl rfl) | 3, _ => (cZ.dec (p := PySem.W.kitOne K (.ref 94) (.ref 256) = some false) (i := 14) (j := 5) rfl rfl rfl) | 4, _ => (cZ.dec (p := PySem.W.kitOne K (.ref 113) (.ref 256) = some false) (i := 14) (j := 6) rfl rfl rfl) | 5, _ => (cZ.dec (p := PySem.W.kitOne K (.ref 132) (.ref 256) = some false) (i := 14) (j := 7) rfl rfl rfl) | 6, _ => (cZ.dec (p := PySem.W.kitOne K (.ref 151) (.ref 256) = some false) (i := 14) (j := 8) rfl rfl rfl) | 7, _ => (cZ.dec (p := PySem.W.kitOne K (.ref 163) (.ref 256) = some false) (i := 14) (j := 9) rfl rfl rfl) | 8, _ => (cZ.dec (p := PySem.W.kitOne K (.ref 175) (.ref 256) = some false) (i := 14) (j := 10) rfl rfl rfl) | 9, _ => (cZ.dec (p := PySem.W.kitOne K (.ref 187) (.ref 256) = some false) (i := 14) (j := 11) rfl rfl rfl) | 10, _ => (cZ.dec (p := PySem.W.kitOne K (.ref 206) (.ref 256) = some false) (i := 14) (j := 12) rfl rfl rfl) | 11, _ => (cZ.dec (p := PySem.W.kitOne K (.ref 225) (.ref 256) = some false) (i := 14) (j := 13) rfl rfl rfl) | 12, _ => (cZ.dec (p := PySem.W.kitOne K (.ref 237) (.ref 256) = some false) (i := 14) (j := 14) rfl rfl rfl) | 13, _ => (cZ.dec (p := PySem.W.kitOne K (.ref 256) (.ref 256) = some true) (i := 14) (j := 15) rfl rfl rfl) | n + 14, h => absurd h (by omega),
    xk_NotFitting := fun c hc => match c, hc with | 0, _ => (cZ.dec (p := PySem.W.kitOne K (.ref 37) (.ref 175) = some false) (i := 14) (j := 16) rfl rfl rfl) | 1, _ => (cZ.dec (p := PySem.W.kitOne K (.ref 56) (.ref 175) = some false) (i := 14) (j := 17) rfl rfl rfl) | 2, _ => (cZ.dec (p := PySem.W.kitOne K (.ref 75) (.ref 175) = some false) (i := 14) (j := 18) rfl rfl rfl) | 3, _ => (cZ.dec (p := PySem.W.kitOne K (.ref 94) (.ref 175) = some false) (i := 14) (j := 19) rfl rfl rfl) | 4, _ => (cZ.dec (p := PySem.W.kitOne K (.ref 113) (.ref 175) = some false) (i := 14) (j := 20) rfl rfl rfl) | 5, _ => (cZ.dec (p := PySem.W.kitOne K (.ref 132) (.ref 175) = some false) (i := 14) (j := 21) rfl rfl rfl) | 6, _ => (cZ.dec (p := PySem.W.kitOne K (.ref 151) (.ref 175) = some false) (i := 14) (j := 22) rfl rfl rfl) | 7, _ => (cZ.dec (p := PySem.W.kitOne K (.ref 163) (.ref 175) = some false) (i := 14) (j := 23) rfl rfl rfl) | 8, _ => (cZ.dec (p := PySem.W.kitOne K (.ref 175) (.ref 175) = some true) (i := 14) (j := 24) rfl rfl rfl) | 9, _ => (cZ.dec (p := PySem.W.kitOne K (.ref 187) (.ref 175) = some false) (i := 15) (j := 0) rfl rfl rfl) | 10, _ => (cZ.dec (p := PySem.W.kitOne K (.ref 206) (.ref 175) = some false) (i := 15) (j := 1) rfl rfl rfl) | 11, _ => (cZ.dec (p := PySem.W.kitOne K (.ref 225) (.ref 175) = some false) (i := 15) (j := 2) rfl rfl rfl) | 12, _ => (cZ.dec (p := PySem.W.kitOne K (.ref 237) (.ref 175) = some false) (i := 15) (j := 3) rfl rfl rfl) | 13, _ => (cZ.dec (p := PySem.W.kitOne K (.ref 256) (.ref 175) = some false) (i := 15) (j := 4) rfl rfl rfl) | n + 14, h => absurd h (by omega),
    xk_SiltError := fun c hc => match c, hc with | 0, _ => (cZ.dec (p := PySem.W.kitOne K (.ref 37) (.ref 24) = some true) (i := 15) (j := 5) rfl rfl rfl) | 1, _ => (cZ.dec (p := PySem.W.kitOne K (.ref 56) (.ref 24) = some true) (i := 15) (j := 6) rfl rfl rfl) | 2, _ => (cZ.dec (p := PySem.W.kitOne K (.ref 75) (.ref 24) = some true) (i := 15) (j := 7) rfl rfl rfl) | 3, _ => (cZ.dec (p := PySem.W.kitOne K (.ref 94) (.ref 24) = some true) (i := 15) (j := 8) rfl rfl rfl) | 4, _ => (cZ.dec (p := PySem.W.kitOne K (.ref 113) (.ref 24) = some true) (i := 15) (j := 9) rfl rfl rfl) | 5, _ => (cZ.dec (p := PySem.W.kitOne K (.ref 132) (.ref 24) = some true) (i := 15) (j := 10) rfl rfl rfl) | 6, _ => (cZ.dec (p := PySem.W.kitOne K (.ref 151) (.ref 24) = some true) (i := 15) (j := 11) rfl rfl rfl) | 7, _ => (cZ.dec (p := PySem.W.kitOne K (.ref 163) (.ref 24) = some true) (i := 15) (j := 12) rfl rfl rfl) | 8, _ => (cZ.dec (p := PySem.W.kitOne K (.ref 175) (.ref 24) = some true) (i := 15) (j := 13) rfl rfl rfl) | 9, _ => (cZ.dec (p := PySem.W.kitOne K (.ref 187) (.ref 24) = some true) (i := 15) (j := 14) rfl rfl rfl) | 10, _ => (cZ.dec (p := PySem.W.kitOne K (.ref 206) (.ref 24) = some true) (i := 15) (j := 15) rfl rfl rfl) | 11, _ => (cZ.dec (p := PySem.W.kitOne K (.ref 225) (.ref 24) = some true) (i := 15) (j := 16) rfl rfl rfl) | 12, _ => (cZ.dec (p := PySem.W.kitOne K (.ref 237) (.ref 24) = some true) (i := 15) (j := 17) rfl rfl rfl) | 13, _ => (cZ.dec (p := PySem.W.kitOne K (.ref 256) (.ref 24) = some true) (i := 15) (j := 18) rfl rfl rfl) | n + 14, h => absurd h (by omega),
    xk_Unlike := fun c hc => match c, hc with | 0, _ => (cZ.dec (p := PySem.W.kitOne K (.ref 37) (.ref 163) = some false) (i := 15) (j := 19) rfl rfl rfl) | 1, _ => (cZ.dec (p := PySem.W.kitOne K (.ref 56) (.ref 163) = some false) (i := 15) (j := 20) rfl rfl rfl) | 2, _ => (cZ.dec (p := PySem.W.kitOne K (.ref 75) (.ref 163) = some false) (i := 15) (j := 21) rfl rfl rfl) | 3, _ => (cZ.dec (p := PySem.W.kitOne K (.ref 94) (.ref 163) = some false) (i := 15) (j := 22) rfl rfl rfl) | 4, _ => (cZ.dec (p := PySem.W.kitOne K (.ref 113) (.ref 163) = some false) (i := 15) (j := 23) rfl rfl rfl) | 5, _ => (cZ.dec (p := PySem.W.kitOne K (.ref 132) (.ref 163) = some false) (i := 15) (j := 24) rfl rfl rfl) | 6, _ => (cZ.dec (p := PySem.W.kitOne K (.ref 151) (.ref 163) = some false) (i := 16) (j := 0) rfl rfl rfl) | 7, _ => (cZ.dec (p := PySem.W.kitOne K (.ref 163) (.ref 163) = some true) (i := 16) (j := 1) rfl rfl rfl) | 8, _ => (cZ.dec (p := PySem.W.kitOne K (.ref 175) (.ref 163) = some false) (i := 16) (j := 2) rfl rfl rfl) | 9, _ => (cZ.dec (p := PySem.W.kitOne K (.ref 187) (.ref 163) = some false) (i := 16) (j := 3) rfl rfl rfl) | 10, _ => (cZ.dec (p := PySem.W.kitOne K (.ref 206) (.ref 163) = some false) (i := 16) (j := 4) rfl rfl rfl) | 11, _ => (cZ.dec (p := PySem.W.kitOne K (.ref 225) (.ref 163) = some false) (i := 16) (j := 5) rfl rfl rfl) | 12, _ => (cZ.dec (p := PySem.W.kitOne K (.ref 237) (.ref 163) = some false) (i := 16) (j := 6) rfl rfl rfl) | 13, _ => (cZ.dec (p := PySem.W.kitOne K (.ref 256) (.ref 163) = some false) (i := 16) (j := 7) rfl rfl rfl) | n + 14, h => absurd h (by omega),
    xk_ValueError := fun c hc => match c, hc with | 0, _ => (cZ.dec (p := PySem.W.kitOne K (.ref 37) (.type "ValueError") = some true) (i := 16) (j := 8) rfl rfl rfl) | 1, _ => (cZ.dec (p := PySem.W.kitOne K (.ref 56) (.type "ValueError") = some true) (i := 16) (j := 9) rfl rfl rfl) | 2, _ => (cZ.dec (p := PySem.W.kitOne K (.ref 75) (.type "ValueError") = some true) (i := 16) (j := 10) rfl rfl rfl) | 3, _ => (cZ.dec (p := PySem.W.kitOne K (.ref 94) (.type "ValueError") = some true) (i := 16) (j := 11) rfl rfl rfl) | 4, _ => (cZ.dec (p := PySem.W.kitOne K (.ref 113) (.type "ValueError") = some true) (i := 16) (j := 12) rfl rfl rfl) | 5, _ => (cZ.dec (p := PySem.W.kitOne K (.ref 132) (.type "ValueError") = some true) (i := 16) (j := 13) rfl rfl rfl) | 6, _ => (cZ.dec (p := PySem.W.kitOne K (.ref 151) (.type "ValueError") = some true) (i := 16) (j := 14) rfl rfl rfl) | 7, _ => (cZ.dec (p := PySem.W.kitOne K (.ref 163) (.type "ValueError") = some true) (i := 16) (j := 15) rfl rfl rfl) | 8, _ => (cZ.dec (p := PySem.W.kitOne K (.ref 175) (.type "ValueError") = some true) (i := 16) (j := 16) rfl rfl rfl) | 9, _ => (cZ.dec (p := PySem.W.kitOne K (.ref 187) (.type "ValueError") = some true) (i := 16) (j := 17) rfl rfl rfl) | 10, _ => (cZ.dec (p := PySem.W.kitOne K (.ref 206) (.type "ValueError") = some true) (i := 16) (j := 18) rfl rfl rfl) | 11, _ => (cZ.dec (p := PySem.W.kitOne K (.ref 225) (.type "ValueError") = some true) (i := 16) (j := 19) rfl rfl rfl) | 12, _ => (cZ.dec (p := PySem.W.kitOne K (.ref 237) (.type "ValueError") = some true) (i := 16) (j := 20) rfl rfl rfl) | 13, _ => (cZ.dec (p := PySem.W.kitOne K (.ref 256) (.type "ValueError") = some true) (i := 16) (j := 21) rfl rfl rfl) | n + 14, h => absurd h (by omega),
    ik_bool := (fun ty b h => by
      unfold i_bool at h
      split at h
      · cases h; exact kit_ty (by decide +kernel)
      · cases h; exact kit_ty (by decide +kernel)
      · cases h; exact kit_ty (by decide +kernel)
      · cases h; exact kit_ty (by decide +kernel)
      · cases h; exact kit_ty (by decide +kernel)
      · cases h; exact kit_ty (by decide +kernel)
      · cases h),
    ic_bool := (fun c b h => by
      unfold i_bool at h
      split at h
      · rename_i e; cases e
      · rename_i e; cases e
      · rename_i e; cases e
      · rename_i e; cases e
      · rename_i e; cases e
      · rename_i e; cases e

      · cases h),
    ik_int := (fun ty b h => by
      unfold i_int at h
      split at h
      · cases h; exact kit_ty (by decide +kernel)
      · cases h; exact kit_ty (by decide +kernel)
      · cases h; exact kit_ty (by decide +kernel)
      · cases h; exact kit_ty (by decide +kernel)
      · cases h; exact kit_ty (by decide +kernel)
      · cases h; exact kit_ty (by decide +kernel)
      · cases h),
    ic_int := (fun c b h => by
      unfold i_int at h
      split at h
      · rename_i e; cases e
      · rename_i e; cases e
      · rename_i e; cases e
      · rename_i e; cases e
      · rename_i e; cases e
      · rename_i e; cases e

      · cases h) }
open PySem PySem.Spec PyProof.Rows L2 ZH
theorem all_mk {w : World} {K : PySem.W.Frag} {h : Heap} {mg : Str → Option Value} {fa : Addr} (X : K.In h) (G : h.Ns mainGlobals mg) (hfa : mg "law" = some (.ref fa)) (cZ : SaysZ fbs fnl tbs w K) :
    ∃ fd : FuncData, (∀ (s : Shared) (v : Value), BindsTo s fd ⟨[v], []⟩ [("_law_script", v)]) ∧ ∀ base : Heap, K.In base → base.Ns mainGlobals mg → FnOk PySem.Challenge.pw_siltmeet_k41_errors_created w K mg base (L2N.CX PySem.Challenge.pw_siltmeet_k41_errors_created w) 4 fa fd ["_law_script"] (spLaw K) := by
  have e := hfa.symm.trans (PySem.W.mg_of X G (cZ.dec (p := PySem.W.nsIn K mainGlobals "law" = some (some (.ref 324))) (i := 0) (j := 17) rfl rfl rfl))
  cases e
  have T := tx_mk X G cZ
  obtain ⟨fd, F⟩ := fun_z (cZ.fns (i := 19) (d := dz_19) rfl) rfl rfl
  refine ⟨fd, ?_, fun base _ _ => ?_⟩
  · exact law_binds F fun _ _ _ _ _ _ s v => .of_eq rfl
  · exact (okF_law T F).imp fun vs H Q E h => sp_law h
theorem run_f (w : World) : HandSHeadRun.RunEq RR qq hkk obk 30000 nm_all (w.withFollow "special-get-raises" false) := fun os => map_trip (ra_f w os) (rb_f_0 w os)
theorem run_t (w : World) : HandSHeadRun.RunEq RR qq hkk obk 30000 nm_all (w.withFollow "special-get-raises" true) := fun os => map_trip (ra_t w os) (rb_t_0 w os)
end ZZ
set_option Elab.async false
set_option linter.all false
set_option maxRecDepth 100000
set_option maxHeartbeats 4000000
open PySem PySem.W PyProof.Rows in
set_option maxRecDepth 100000 in
set_option maxHeartbeats 0 in
theorem PySem.Challenge.cw_siltmeet_k41_errors_created_holds : PySem.Challenge.rw_siltmeet_k41_errors_created.Holds := by
  w_on; o_law
  refine HandSHeadRun.head_any (r := OpenLaw.row PySem.Challenge.rw_siltmeet_k41_errors_created) (q := view (OpenLaw.row PySem.Challenge.rw_siltmeet_k41_errors_created).prog [26]) (H := ZZ.hkk) (ob := ZZ.obk) (M := 30000) (loose := ZZ.nm_all) (d := HandSHeadRun.topDef (OpenLaw.row PySem.Challenge.rw_siltmeet_k41_errors_created).prog 26) (kwd := []) ZZ.obk_eq
    (by kernel_rfl) (fun s => by kernel_rfl) (PySem.W.byRow2 "special-get-raises" (P := fun w => HandSHeadRun.RunEq ZZ.RR (PySem.W.view ZZ.RR.prog [26]) ZZ.hkk ZZ.obk 30000 ZZ.nm_all w) ZZ.run_f ZZ.run_t) (by kernel_rfl) (by kernel_rfl) (by kernel_rfl) (by rfl) (by first | assumption | decide +kernel) (by decide +kernel) ⟨rfl, rfl, rfl, rfl, rfl, by decide +kernel⟩ ?hw ?hc
  case hw => w_witness2
  case hc =>
    refine ZH.walk_ofZ (l := PySem.Challenge.rw_siltmeet_k41_errors_created) (n := 63) (k := 4) (x := "_law_script") (CX := fun w => L2N.CX PySem.Challenge.pw_siltmeet_k41_errors_created w) rfl (by decide) (by kernel_rfl) ⟨rfl, by decide, by decide⟩ ?F ?E
    case F =>
      intro w mg fa h Y G hmg0
      obtain ⟨K, KX, c⟩ := Y
      have hmg : mg ("law" : PySem.Str) = some (.ref fa) := by
        have e : (HandSHeadRun.topDef (OpenLaw.row PySem.Challenge.rw_siltmeet_k41_errors_created).prog 26).name = ("law" : PySem.Str) := by kernel_rfl
        rw [← e]
        exact hmg0
      obtain ⟨fd, hb, hF⟩ := ZZ.all_mk KX G hmg c
      exact ⟨K, fd, ZZ.spLaw K, KX, hb, fun H a ns hl _ hS => ⟨a, ns, rfl, hS, hl, fun _ => rfl⟩, hF⟩
    case E =>
      intro _ _ _ _ _ h
      obtain ⟨_, _, _, _, _, _, _, _, _, _, _, _, z⟩ := h
      exact z
